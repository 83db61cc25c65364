import PyProof.Rows.All
import Wide.All
import OpenK.AllK
import Wide.FinOn
import PySem.Challenge.RW_leastrows_k00_fracs
import KE.KExcSuper
import HandS.ForMost
import HandS.Exc
import HandS.ExcInit
import HandS.ExcSuper
import HandS.ExcIs
import HandS.ExcField
import HandS.HotCalls
import KE.KOpsOwn
import KE.KCallOwn
import HandS.SlotsOwn
import HandS.ClsMeth
import HandS.Wide
import KE.KStateDown
import HandS.Base
import HandS.Call
import HandS.Ends
import HandS.More
import HandS.Words
import HandS.WordsExc
import HandS.Defaults
import HandS.Head0
import HandS.Head1
import HandS.Head2
import HandS.HeadEnd
import HandS.HeadHook1
import HandS.HeadHook2
import HandS.ForExc
import HandS.IsInst
import HandS.FStr
import HandS.StrMore
import HandS.Codes
import HandS.Style
import HandS.RaiseMore
import HandS.Zip
set_option Elab.async false
set_option linter.all false
set_option maxRecDepth 100000
set_option maxHeartbeats 4000000
set_option exponentiation.threshold 2000
/-! plain arithmetic: the lowest terms of a ratio -/
namespace KF
/-- Python's greatest common divisor as an integer -/
def gi (a b : Int) : Int := (Int.gcd a b : Int)
theorem gi_nonneg (a b : Int) : 0 ≤ gi a b := Int.natCast_nonneg _
theorem gi_dvd_left (a b : Int) : gi a b ∣ a := Int.gcd_dvd_left ..
theorem gi_dvd_right (a b : Int) : gi a b ∣ b := Int.gcd_dvd_right ..
theorem gi_pos {a b : Int} (h : b ≠ 0) : 0 < gi a b := by
  have : 0 < Int.gcd a b := Int.gcd_pos_of_ne_zero_right _ h
  unfold gi; omega
/-- the divisor with the sign of the denominator -/
def gs (a b : Int) : Int := if b < 0 then -gi a b else gi a b
theorem gs_ne {a b : Int} (h : b ≠ 0) : gs a b ≠ 0 := by
  have := gi_pos (a := a) h
  unfold gs; split <;> omega
theorem gs_dvd_left (a b : Int) : gs a b ∣ a := by
  unfold gs; split
  · exact Int.neg_dvd.mpr (gi_dvd_left a b)
  · exact gi_dvd_left a b
theorem gs_dvd_right (a b : Int) : gs a b ∣ b := by
  unfold gs; split
  · exact Int.neg_dvd.mpr (gi_dvd_right a b)
  · exact gi_dvd_right a b
def lowN (a b : Int) : Int := a / gs a b
def lowD (a b : Int) : Int := b / gs a b
theorem lowN_mul (a b : Int) : lowN a b * gs a b = a := Int.ediv_mul_cancel (gs_dvd_left a b)
theorem lowD_mul (a b : Int) : lowD a b * gs a b = b := Int.ediv_mul_cancel (gs_dvd_right a b)
theorem fdiv_gsN (a b : Int) : a.fdiv (gs a b) = lowN a b := Int.fdiv_eq_ediv_of_dvd (gs_dvd_left a b)
theorem fdiv_gsD (a b : Int) : b.fdiv (gs a b) = lowD a b := Int.fdiv_eq_ediv_of_dvd (gs_dvd_right a b)
theorem lowD_pos {a b : Int} (h : b ≠ 0) : 0 < lowD a b := by
  have e := lowD_mul a b
  have g0 := gi_pos (a := a) h
  rcases Int.lt_trichotomy 0 (lowD a b) with q | q | q
  · exact q
  · rw [← q] at e; simp at e; exact absurd e.symm h
  · exfalso
    unfold gs at e
    split at e
    · rename_i hb
      have : 0 < lowD a b * -gi a b := Int.mul_pos_of_neg_of_neg q (by omega)
      omega
    · rename_i hb
      have : lowD a b * gi a b < 0 := Int.mul_neg_of_neg_of_pos q g0
      omega
theorem low_cross (a b : Int) : lowN a b * b = a * lowD a b := by
  have e1 := lowN_mul a b
  have e2 := lowD_mul a b
  calc lowN a b * b = lowN a b * (lowD a b * gs a b) := by rw [e2]
    _ = (lowN a b * gs a b) * lowD a b := by rw [Int.mul_assoc, Int.mul_comm (gs a b), ← Int.mul_assoc]
    _ = a * lowD a b := by rw [e1]
theorem gi_eq_natAbs_gs (a b : Int) : ((gs a b).natAbs : Int) = gi a b := by
  unfold gs gi
  split <;> omega
theorem low_coprime {a b : Int} (h : b ≠ 0) : Int.gcd (lowN a b) (lowD a b) = 1 := by
  have e1 := lowN_mul a b
  have e2 := lowD_mul a b
  have q : Int.gcd (lowN a b * gs a b) (lowD a b * gs a b) = Int.gcd (lowN a b) (lowD a b) * (gs a b).natAbs := Int.gcd_mul_right _ _ _
  rw [e1, e2] at q
  have g : (gs a b).natAbs = Int.gcd a b := by
    have := gi_eq_natAbs_gs a b
    unfold gi at this; omega
  rw [g] at q
  have p : 0 < Int.gcd a b := Int.gcd_pos_of_ne_zero_right _ h
  have : 1 * Int.gcd a b = Int.gcd (lowN a b) (lowD a b) * Int.gcd a b := by rw [Nat.one_mul]; exact q
  exact (Nat.eq_of_mul_eq_mul_right p this).symm
/-- two ratios in lowest terms that are equal are one -/
theorem low_unique {p q p' q' : Int} (hq : 0 < q) (hq' : 0 < q') (c : Int.gcd p q = 1) (c' : Int.gcd p' q' = 1) (e : p * q' = p' * q) : p = p' ∧ q = q' := by
  have d1 : q ∣ q' := by
    have : q ∣ p * q' := ⟨p', by rw [e, Int.mul_comm]⟩
    have z := Int.dvd_gcd_mul_iff_dvd_mul.mpr this
    rw [Int.gcd_comm, c] at z
    simpa using z
  have d2 : q' ∣ q := by
    have : q' ∣ p' * q := ⟨p, by rw [← e, Int.mul_comm]⟩
    have z := Int.dvd_gcd_mul_iff_dvd_mul.mpr this
    rw [Int.gcd_comm, c'] at z
    simpa using z
  have eq : q = q' := Int.dvd_antisymm (by omega) (by omega) d1 d2
  subst eq
  exact ⟨Int.eq_of_mul_eq_mul_right (by omega) e, rfl⟩
theorem low_eq {a b a' b' : Int} (h : b ≠ 0) (h' : b' ≠ 0) (e : a * b' = a' * b) : lowN a b = lowN a' b' ∧ lowD a b = lowD a' b' := by
  refine low_unique (lowD_pos h) (lowD_pos h') (low_coprime h) (low_coprime h') ?_
  have c1 := low_cross a b
  have c2 := low_cross a' b'
  -- (N D') b b' = (a D) D' b' .. 
  have k : (lowN a b * lowD a' b') * (b * b') = (lowN a' b' * lowD a b) * (b * b') := by
    calc (lowN a b * lowD a' b') * (b * b') = (lowN a b * b) * (lowD a' b' * b') := by simp only [Int.mul_assoc, Int.mul_left_comm, Int.mul_comm]
      _ = (a * lowD a b) * (lowD a' b' * b') := by rw [c1]
      _ = (a * b') * (lowD a b * lowD a' b') := by simp only [Int.mul_assoc, Int.mul_left_comm, Int.mul_comm]
      _ = (a' * b) * (lowD a b * lowD a' b') := by rw [e]
      _ = (a' * lowD a' b') * (lowD a b * b) := by simp only [Int.mul_assoc, Int.mul_left_comm, Int.mul_comm]
      _ = (lowN a' b' * b') * (lowD a b * b) := by rw [c2]
      _ = (lowN a' b' * lowD a b) * (b * b') := by simp only [Int.mul_assoc, Int.mul_left_comm, Int.mul_comm]
  exact Int.eq_of_mul_eq_mul_right (Int.mul_ne_zero h h') k
/-- a ratio that is in lowest terms is its own lowest form -/
theorem low_self {p q : Int} (hq : 0 < q) (c : Int.gcd p q = 1) : lowN p q = p ∧ lowD p q = q := by
  have g : gs p q = 1 := by
    unfold gs gi
    rw [if_neg (by omega), c]; rfl
  unfold lowN lowD
  rw [g, Int.ediv_one, Int.ediv_one]
  exact ⟨rfl, rfl⟩
theorem low_one (n : Int) : lowN n 1 = n ∧ lowD n 1 = 1 := low_self (by omega) (by rw [Int.gcd_one])
theorem natAbs_lowN_le (a b : Int) (h : b ≠ 0) : (lowN a b).natAbs ≤ a.natAbs := by
  have e := lowN_mul a b
  have g := gs_ne (a := a) h
  rw [← e, Int.natAbs_mul]
  rw [e]
  exact Nat.le_mul_of_pos_right _ (by omega)
theorem natAbs_lowD_le (a b : Int) (h : b ≠ 0) : (lowD a b).natAbs ≤ b.natAbs := by
  have e := lowD_mul a b
  have g := gs_ne (a := a) h
  conv => rhs; rw [← e, Int.natAbs_mul]
  exact Nat.le_mul_of_pos_right _ (by omega)
end KF
/-! an own error whose __init__ begins with super().__init__('text'): that first statement -/
namespace HX
open PySem PySem.W PySem.Calls PyProof.Rows PySem.HandSPX
section
variable {prog : Program} {w : World} {A : Around} {E : Value → Shared → Prop} {h : Heap} {g : Array GenState} {d : Drawn} {t : Nat} {os : OsState}
variable {nm q : Str} {C N : Addr} {bs bm : List Value} {hdct : Bool} {sn : List Str} {sub : List Value} {ab : Bool} {col : Option Bool} {dd : Option Addr} {k0 k1 k2 k3 k5 : Option Value}
/-- ValueError.__init__, bound to a fresh error, called -/
theorem call_mw {u e t0 : Addr} {rest : List Value} {Q : Value → Shared → Prop}
    (hC : h.get? C = some (excClassObj nm q C N bs bm hdct sn sub ab col dd k0 k1 k2 k3 k5 "ValueError.__new__")) (hT : ∀ X : String, bm.contains (.type X) = [Value.type "ValueError", .type "Exception", .type "BaseException", .type "object"].contains (.type X))
    (he : h.get? e = some (excO C t0)) (hu : h.get? u = some (kxs_mw "ValueError.__init__" e)) (hrest : rest.length ≤ sizeLine)
    (hq : ∀ h' t1, (∀ b o, b ≠ e → h.get? b = some o → h'.get? b = some o) → h'.get? e = some (excO C t1) → Q .none ⟨h', g, d, t, os⟩) :
    wpAny (model prog w) A (call (.ref u) rest) Q E ⟨h, g, d, t, os⟩ := by
  refine wpAny_call (codeAny_of_tree ?_)
  show wpAny _ A.in1 (callAny (.ref u) ⟨rest, []⟩) _ _ _
  simp only [callAny]
  refine wpAny_bind (wpAny_load hu ?_)
  simp only [kxs_mw, show (Value.type "method-wrapper" == Value.type "method" || Value.type "method-wrapper" == Value.type "builtin_function_or_method" || Value.type "method-wrapper" == Value.type "method-wrapper") = true by decide, if_true]
  refine KFB.if_so (by decide) ?_
  refine wpAny_bind (PySem.ESX.check_bound F.excBase_ValueError hC he rfl ?_)
  refine wpAny_bind (wpAny_pure (wpAny_pure ?_))
  refine ⟨Code.quiet_builtin _ (by decide +kernel), codeAny_builtin F.excBase_ValueError.initEntry ?_⟩
  rw [Around.under_plainId F.excBase_ValueError.init.plain _]
  wp_walk
  refine hq _ h.objs.size (fun b o hb ho => ?_) ?_
  · rw [Heap.get?_update_other _ _ (Ne.symm hb)]
    exact Heap.get?_push_of_some _ ho
  · rw [Heap.get?_update_self _ (Heap.get?_push_of_some _ he) rfl]
    rfl
end
/-- what the written part says of an own error class: its own cell, its code, its bases -/
structure SupC (prog : Program) (K : Frag) (C fI cc cda : Addr) : Prop where
  cls : ∃ nm q N bs bm sn sub ab col dd k0 k1 k2 k3 k5, K.lookup C = some (excClassObj nm q C N bs bm true sn sub ab col dd k0 k1 k2 k3 k5 "ValueError.__new__") ∧ refsVE bm = true
  cell : ∃ cl cld csl, K.lookup cc = some ⟨cl, cld, .cell (some (.ref C)), csl⟩
  code : ∃ ccl cdd vs ccs file tf, K.lookup cda = some ⟨ccl, cdd, .fields vs, ccs⟩ ∧ vs[2]? = some (.str file tf) ∧ ((prog.main.file : Str) == file) = true
  sub : mroIn K C (.ref C) = some true
  sup : ks_superIn K C C "__init__" = some (some (.builtin "ValueError.__init__"))
  isVE : subIn K (.ref C) (.type "ValueError") = some true
  third : nsIn K cStatics "thirdparty.any" = some none
  glob : nsIn K mainGlobals "super" = some none
  top : (prog.main.scope.names.lookup ("super" : Str)).isSome = false
theorem one_size_ (v : Value) : [v].length ≤ sizeLine := by
  rw [sizeLine_eq]
  exact (by decide : 1 ≤ 16777216)
/-- how the call is read: by its places -/
abbrev EvS (scope : Scope) (q : Str) (L fI cc cda : Addr) (txt : Str) (p0 p1 p2 p3 p4 : Pos) (j : Nat) : Prop := ∃ pl : Sem Bool,
  eval (.Call (.Attribute (.Call (.Name "super" p0) [] [] p1) "__init__" p2) [.Constant (.str txt) j p3] [] p4) (envX q scope L fI (.ref cda) [("__class__", cc)]) = (do
      let ov ← attributeBase (.Call (.Name "super" p0) [] [] p1) "__init__" (envX q scope L fI (.ref cda) [("__class__", cc)]) (eval (.Call (.Name "super" p0) [] [] p1) (envX q scope L fI (.ref cda) [("__class__", cc)]))
      standAt p2.atName
      let (f, first) ← holding [ov] (getMethod ov "__init__" pl)
      callWith p4 f first (backTo p4 (starEach [.Constant (.str txt) j p3] (envX q scope L fI (.ref cda) [("__class__", cc)]))) [])
section
variable {prog : Program} {w : World} {A : Around} {E : Value → Shared → Prop} {s : Shared} {K : Frag} {mg mb m : Str → Option Value} {C fI cc cda x L t0 : Addr} {q txt : Str} {scope : Scope} {fd : FuncData} {body : List Stmt} {oc : Value} {od : Option Addr} {osl : Array (Option Value)} {ar : Arg} {p0 p1 p2 p3 p4 p5 : Pos} {j : Nat}
theorem super_init {Q : Flow → Shared → Prop} (T : SupC prog K C fI cc cda) (X : K.In s.heap) (hg : s.heap.Ns mainGlobals mg) (hb : s.heap.Ns builtinsNs mb) (hbb : mb "super" = bootBuiltins "super") (hns : s.heap.Ns L m) (hv : m ar.arg = some (.ref x)) (hx : s.heap.get? x = some (excO C t0))
    (hf : K.lookup fI = some ⟨oc, od, .func fd, osl⟩) (hp : (fd.params.posonlyargs ++ fd.params.args).head? = some ar)
    (hks : scope.names.lookup ("super" : Str) = some .globalImplicit) (hkc : scope.names.lookup ("__class__" : Str) = some .free) (hka : scope.names.lookup ar.arg = some .local) (hk : scope.kind = .function) (hdbg : (ar.arg == ("__debug__" : Str)) = false)
    (he : EvS scope q L fI cc cda txt p0 p1 p2 p3 p4 j) 
    (hq : ∀ h' t1 tk, (∀ b o, b ≠ x → s.heap.get? b = some o → h'.get? b = some o) → h'.get? x = some (excO C t1) → Q .next { s with heap := h', toks := tk }) :
    _root_.PySem.wpAt (model prog w) A (.func body (envX q scope L fI (.ref cda) [("__class__", cc)])) (exec (.Expr (.Call (.Attribute (.Call (.Name "super" p0) [] [] p1) "__init__" p2) [.Constant (.str txt) j p3] [] p4) p5) (envX q scope L fI (.ref cda) [("__class__", cc)])) Q E s := by
  obtain ⟨pl, he⟩ := he
  obtain ⟨kind, names, isG, isC, more⟩ := scope
  dsimp only at hk
  subst hk
  obtain ⟨nm, qn, N, bs, bm, sn, sub, ab, col, dd, k0, k1, k2, k3, k5, hC, hbm⟩ := T.cls
  obtain ⟨cl, cld, csl, hcell⟩ := T.cell
  obtain ⟨ccl, cdd, vs, ccs, file, tf, hcode, hvs, hfile⟩ := T.code
  have hcl : clsIn K C = some { name := nm, bases := bs, mro := .ref C :: bm, ns := N, qualname := qn, hasDict := true, slotNames := sn, subclasses := sub, abstract := ab, collection := col, hasDel := false } := by unfold clsIn; rw [hC] <;> rfl
  have I : InstAt s.heap x (excO C t0) C none := ⟨hx, rfl, rfl, trivial⟩
  obtain ⟨hh, g, d, t, os⟩ := s
  have hD1 : hh.get? C = some (excClassObj nm qn C N bs bm true sn sub ab col dd k0 k1 k2 k3 k5 "ValueError.__new__") := X _ _ hC
  refine ks_wpAt_Expr_any (ks_wpAt_MethodCall ?_ he)
  refine ks_wpAt_super_base (env := envX q ⟨.function, names, isG, isC, more⟩ L fI (.ref cda) [("__class__", cc)]) hks hkc (by decide +kernel) rfl (X _ _ hf) rfl hp rfl (X _ _ hcode) rfl hvs hfile T.top ?_
  refine ks_loadName_global rfl hks (loadGlobal_builtin (env := envX q ⟨.function, names, isG, isC, more⟩ L fI (.ref cda) [("__class__", cc)]) hg (mg_none_of X hg T.glob) hb (hbb.trans (by decide +kernel)) ⟨rfl, ?_⟩)
  refine wpAny_loadName_free rfl hkc rfl ⟨_, X _ _ hcell, rfl⟩ ?_
  refine wpAny_loadName_local rfl hka hns hv ?_
  refine ks_wpAny_isType_cls hD1 rfl ⟨rfl, ?_⟩
  refine ks_wpAny_call_super hD1 rfl I.at_ I.cls (fun c e => ?_) (looks_mroIn X T.sub) (fun h1 e1 k1' => ?_)
  · cases e
  · have X1 : K.In h1 := fun b o z => k1' b o (X b o z)
    have hx1 : h1.get? x = some (excO C t0) := k1' _ _ hx
    have I1 : InstAt h1 x (excO C t0) C none := ⟨hx1, rfl, rfl, trivial⟩
    have hm := T.sup
    unfold ks_superIn at hm
    rw [hcl] at hm
    refine kxs_getMethod kxs_ValueError e1 (looks_opaque X1 T.third) (l₀ := .ref C :: bm) ?_ rfl X1 hm (I1.type.andThen (looks_subIn X1 T.isVE)) (ks_ne X1 I1 hcl) (by decide +kernel) ?_
    · exact fun A Q E s k q => wpAny_bind ((looks_clsIn X1 hcl) A _ E s k (wpAny_pure q))
    · have hu : (h1.push (kxs_mw "ValueError.__init__" x)).get? h1.objs.size = some (kxs_mw "ValueError.__init__" x) := Heap.get?_push_at rfl rfl
      have k2' : ∀ b o, h1.get? b = some o → (h1.push (kxs_mw "ValueError.__init__" x)).get? b = some o := fun b o z => Heap.get?_push_of_some _ z
      refine kxs_callWith (i := "ValueError.__init__") (x := x) (by rfl) (evalArgs_plain ?_)
      refine spliced_cons (Constant_str (k := j) (pos := p3) ?_)
      refine spliced_nil ⟨hu, ?_⟩
      refine call_mw (k2' _ _ (k1' _ _ hD1)) (fun X => refsVE_contains X bm hbm) (k2' _ _ hx1) hu (one_size_ _) (fun h' t1 k3' e3 => ?_)
      exact hq h' t1 _ (fun b o hb z => k3' b o hb (k2' b o (k1' b o z))) e3
end
end HX
/-! an own error's __init__ that begins with super().__init__('text'): its promise by the rest of its body -/
namespace HX
open PySem PySem.Spec PyProof.Rows L2
/-- the scope of such an __init__ -/
structure SupScope (N ps : List Str) (sc : Scope) : Prop where
  kind : sc.kind = .function
  co : sc.isCoroutine = false
  gen : sc.isGenerator = false
  nd : N.Nodup
  pre : N.take ps.length = ps
  par : ∀ x ∈ ps, sc.names.lookup x = some .local
  nocell : ∀ y ∈ sc.names, y.2 ≠ .cell
  free : ∀ y ∈ sc.names, y.2 = .free → y.1 = ("__class__" : Str)
  ks : sc.names.lookup ("super" : Str) = some .globalImplicit
  kc : sc.names.lookup ("__class__" : Str) = some .free
theorem look_none' {α : Type} {x : Str} : ∀ {l : List (Str × α)}, (∀ w, (x, w) ∉ l) → l.lookup x = none
  | [], _ => rfl
  | (y, v) :: r, h => by
    have e : (x == y) = false := by
      cases q : (x == y) with
      | false => rfl
      | true => exact absurd (by rw [beq_iff_eq.mp q]; exact List.mem_cons_self) (h v)
    rw [List.lookup_cons, e]
    exact look_none' fun w hw => h w (List.mem_cons_of_mem _ hw)
theorem lookup_app {α : Type} {x : Str} : ∀ (l r : List (Str × α)), (l ++ r).lookup x = (l.lookup x).or (r.lookup x)
  | [], r => by simp
  | (y, v) :: l, r => by
    rw [List.cons_append, List.lookup_cons, List.lookup_cons]
    cases (x == y) with
    | true => rfl
    | false => exact lookup_app l r
theorem zip_look' : ∀ {ps : List Str} {us : List Value} {i : Nat} {x : Str} {u : Value}, ps.Nodup → ps[i]? = some x → us[i]? = some u → (ps.zip us).reverse.lookup x = some u
  | [], _, _, _, _, _, h, _ => by simp at h
  | _ :: _, [], _, _, _, _, _, h => by simp at h
  | p :: ps, v :: us, 0, x, u, nd, h1, h2 => by
    have e1 : p = x := by simpa using h1
    have e2 : v = u := by simpa using h2
    subst e1 e2
    have hn : (ps.zip us).reverse.lookup p = none := look_none' fun w hw => (List.nodup_cons.mp nd).1 (List.of_mem_zip (List.mem_reverse.mp hw)).1
    rw [List.zip_cons_cons, List.reverse_cons, lookup_app, hn]
    simp [List.lookup]
  | p :: ps, v :: us, i + 1, x, u, nd, h1, h2 => by
    have e : (ps.zip us).reverse.lookup x = some u := zip_look' (i := i) (List.nodup_cons.mp nd).2 (by simpa using h1) (by simpa using h2)
    rw [List.zip_cons_cons, List.reverse_cons, lookup_app, e]
    rfl
abbrev envS (qual : Str) (scope : Scope) (L f cc cda : Addr) : Env := PySem.W.envX qual scope L f (.ref cda) [("__class__", cc)]
def cxS (CX : CXT) (P : Program) (w : World) (K : PySem.W.Frag) (mg : Str → Option Value) (base : Heap) (N : List Str) (qual : Str) (scope : Scope) (f cc cda : Addr) (A : Around) (outer : List Env) (s : Shared) (H : Hp) (E : XK) : Cx where
  prog := P
  w := w
  K := K
  mg := mg
  base := base
  A := A.deeper (envS qual scope s.heap.objs.size f cc cda)
  N := N
  s_0 := s
  H_0 := H
  env := envS qual scope s.heap.objs.size f cc cda
  outer := outer
  stack := envS qual scope s.heap.objs.size f cc cda :: outer
  ex := []
  calm := true
  fn := fun _ => false
  pn := []
  xe := fun e s' => wpAny (model P w) (A.deeper (envS qual scope s.heap.objs.size f cc cda)) (leaving (envS qual scope s.heap.objs.size f cc cda) e) (fun _ s'' => CX outer H s E e s'') (fun e' s'' => CX outer H s E e' s'') s'
section
variable {CX : CXT} {P : Program} {w : World} {K : PySem.W.Frag} {mg : Str → Option Value} {base : Heap} {N ps : List Str} {qual : Str} {scope : Scope} {f cc cda C : Addr} {A : Around} {outer : List Env} {s : Shared} {H : Hp} {E : XK} {us : List Value} {vs : List V}
theorem inv_startS {h₁ : Heap} {tk : Nat} (S : SupScope N ps scope) (T : SupC P K C f cc cda) (hd : A.handled = none) (e0 : Env0 P w K mg base A outer s H) (hl : vs.length = ps.length) (r : Vals vs us) (hns : h₁.Ns s.heap.objs.size fun y => (ps.zip us).reverse.lookup y)
    (kp : ∀ b o, s.heap.get? b = some o → h₁.get? b = some o) : Inv (cxS CX P w K mg base N qual scope f cc cda A outer s H E) [] (start N vs) H { s with heap := h₁, toks := tk } := by
  have hpl : ps.length ≤ N.length := by
    have q := congrArg List.length S.pre
    rw [List.length_take] at q
    omega
  obtain ⟨cl, cld, csl, hcell⟩ := T.cell
  have hcb := e0.mod.kin _ _ hcell
  have hcs := e0.bs _ _ hcb
  have noA : ∀ b : Addr, b ∉ (cxS CX P w K mg base N qual scope f cc cda A outer s H E).ex := fun b z => absurd (show b ∈ ([] : List Addr) from z) (by simp)
  have cls1 : ∀ {y : Str} {c : Addr}, ([(("__class__" : Str), cc)] : List (Str × Addr)).lookup y = some c → y = ("__class__" : Str) ∧ c = cc := fun {y c} h => by
    rw [List.lookup_cons] at h
    cases q : (y == ("__class__" : Str)) with
    | true =>
      rw [q] at h
      exact ⟨beq_iff_eq.mp q, (Option.some.inj h).symm⟩
    | false =>
      rw [q] at h
      cases h
  refine ⟨⟨e0.mod, S.kind, rfl, rfl, Nat.le_refl _, fun y z c h1 h2 => ?_, fun y hy => ?_, fun y c z _ => ?_, fun _ => hd, Around.frames_deeper e0.frames, .inr ⟨rfl, rfl⟩, fun b z => absurd z (noA b), e0.bs, e0.bsz, fun b _ _ => noA b, fun b z => absurd z (noA b), e0.funs, e0.frf⟩,
    rfl, e0.bare, Un.kept kp, ⟨_, hns, fun i y v e1 e2 e3 => ?_⟩, fun y c e => ?_, e0.hok.fresh (Nat.le_refl _), fun y c e => ?_, fun p hp => absurd (show p ∈ ([] : List (Addr × Obj)) from hp) (by simp), e0.hok.kept kp, ?_⟩
  · exact (cls1 h1).1.trans (cls1 h2).1.symm
  · have hy : scope.names.lookup y = some .cell ∨ scope.names.lookup y = some .free := hy
    rcases hy with hy | hy
    · exact absurd rfl (S.nocell _ (PySem.mem_of_lookup hy))
    · have e := S.free _ (PySem.mem_of_lookup hy) rfl
      refine ⟨cc, ?_⟩
      show ([(("__class__" : Str), cc)] : List (Str × Addr)).lookup y = some cc
      have e' : y = ("__class__" : Str) := e
      rw [e']
      simp [List.lookup]
  · cases (show false = true from z)
  · have e1 : N[i]? = some y := e1
    have e2 : (start N vs)[i]? = some (some v) := e2
    have hi : i < vs.length := by
      unfold L2.start at e2
      by_cases hi : i < vs.length
      · exact hi
      · rw [List.getElem?_append_right (by simpa using hi)] at e2
        rw [List.getElem?_replicate] at e2
        split at e2 <;> cases e2
    have ha : vs[i]? = some v := by
      unfold L2.start at e2
      rw [List.getElem?_append_left (by simpa using hi), List.getElem?_map] at e2
      cases e : vs[i]? with
      | none => rw [e] at e2; cases e2
      | some a => rw [e] at e2; cases e2; rfl
    obtain ⟨u, hu, rv⟩ := r.get ha
    have hp : ps[i]? = some y := by
      rw [← S.pre, List.getElem?_take_of_lt (by omega)]; exact e1
    have ndP : ps.Nodup := by rw [← S.pre]; exact S.nd.sublist (List.take_sublist _ _)
    exact ⟨u, rv, .inl ⟨S.par y (List.mem_of_getElem? hp), zip_look' ndP hp hu⟩⟩
  · obtain ⟨_, rfl⟩ := cls1 e
    exact ⟨_, _, kp _ _ hcs.1, rfl⟩
  · obtain ⟨_, rfl⟩ := cls1 e
    exact hcs.2
  · unfold L2.start
    show _ = N.length
    rw [List.length_append, List.length_map, List.length_replicate]
    omega
/-- THE RULE for such an __init__: the rest of its body, behind super().__init__('text') -/
theorem fn_ofS {k : Nat} {name txt : Str} {params : Arguments} {rest : List Stmt} {dV kV doc pm ct oc : Value} {an od : Option Addr} {osl : Array (Option Value)} {sp : Sp} {p0 p1 p2 p3 p4 p5 pa : Pos} {j : Nat} {qs : List Str}
    (lk : K.lookup f = some ⟨oc, od, .func (PySem.W.fnX name qual params (.Expr (.Call (.Attribute (.Call (.Name "super" p0) [] [] p1) "__init__" p2) [.Constant (.str txt) j p3] [] p4) p5 :: rest) scope [("__class__", cc)] dV kV doc pm an (.ref cda) ct), osl⟩)
    (hcd : PySem.W.codeIn K (.ref cda) qual = true) (S : SupScope N ps scope) (hps : ps = ("self" : Str) :: qs) (hpar : ∃ ann pp, (params.posonlyargs ++ params.args).head? = some { arg := "self", annotation := ann, pos := pp }) (T : SupC P K C f cc cda)
    (he : ∀ L, EvS scope qual L f cc cda txt p0 p1 p2 p3 p4 j)
    (len : ∀ vs H Q E, sp vs H Q E → vs.length = ps.length) (hself : ∀ vs H Q E, sp vs H Q E → ∃ x ws, vs = .ref x :: ws ∧ H x = some (exo x C none))
    (hbody : ∀ (A : Around) (outer : List Env) (s : Shared) (H : Hp) (vs : List V) (Q : VK) (E : XK), Room k (A.deeper (envS qual scope s.heap.objs.size f cc cda)) → sp vs H Q E →
      ∃ t, PSs (cxS CX P w K mg base N qual scope f cc cda A outer s H E) rest t ∧ t { nx := fun _ H' => Q .non H', rt := Q } (start N vs) H) :
    FnOk P w K mg base CX (k + 1) f (PySem.W.fnX name qual params (.Expr (.Call (.Attribute (.Call (.Name "super" p0) [] [] p1) "__init__" p2) [.Constant (.str txt) j p3] [] p4) p5 :: rest) scope [("__class__", cc)] dV kV doc pm an (.ref cda) ct) ps sp := by
  refine ⟨len, fun A outer s H args us vs Q E hr e0 hb r hsp => ?_⟩
  have hl := len _ _ _ _ hsp
  have KX : K.In s.heap := e0.mod.kin.keeps fun b o e => (e0.bs b o e).1
  have lim : s.heap.NoLimit := e0.mod.nolimit.keeps fun b o e => (e0.bs b o e).1
  obtain ⟨x, ws, rfl, hx⟩ := hself _ _ _ _ hsp
  obtain ⟨ann, pp, hhead⟩ := hpar
  refine PySem.ks_codeAny_call_defAt hr.depth (KX _ _ lk) rfl lim (PySem.W.codeRec_of KX hcd) rfl hb S.nocell (fun y hy => ?_) (fun h₁ hns kp => ?_) S.co S.gen S.kind
  · obtain ⟨n, v⟩ := y
    exact S.par n (List.of_mem_zip hy).1
  · have I : Inv (cxS CX P w K mg base N qual scope f cc cda A outer s H E) [] (start N (.ref x :: ws)) H { s with heap := h₁, toks := s.toks + (ps.zip us).length } := inv_startS S T hr.hd e0 hl r hns kp
    obtain ⟨t, ht, hq⟩ := hbody A outer s H _ Q E (hr.deeper _) hsp
    obtain ⟨t1, hx1⟩ := exo_at I.hok hx
    obtain ⟨mb, hb1, hb2⟩ := I.mod.blt
    obtain ⟨u0, us', rfl, ru0⟩ : ∃ u0 us', us = u0 :: us' ∧ RelV (.ref x) u0 := by
      cases r with
      | cons a b => exact ⟨_, _, rfl, a⟩
    cases (show u0 = Value.ref x from ru0)
    have ndP : ps.Nodup := by rw [← S.pre]; exact S.nd.sublist (List.take_sublist _ _)
    have hv : (fun y => (ps.zip (Value.ref x :: us')).reverse.lookup y) ("self" : Str) = some (.ref x) := zip_look' (i := 0) ndP (by rw [hps]; rfl) rfl
    have hka : scope.names.lookup ("self" : Str) = some .local := S.par _ (by rw [hps]; exact List.mem_cons_self)
    refine PySem.ks_wpAt_execs_cons (super_init (fd := PySem.W.fnX name qual params (.Expr (.Call (.Attribute (.Call (.Name "super" p0) [] [] p1) "__init__" p2) [.Constant (.str txt) j p3] [] p4) p5 :: rest) scope [("__class__", cc)] dV kV doc pm an (.ref cda) ct) T I.kIn (I.mod.glob.keeps I.bk) (hb1.keeps I.bk) (hb2 _ (by decide)) hns hv hx1 lk hhead S.ks S.kc hka S.kind (show ((("self" : Str)) == ("__debug__" : Str)) = false by decide +kernel) (he _) (fun h' t2 tk k2 hx2 => ?_))
    refine wpAt_of_wpAny ?_
    have J : Inv (cxS CX P w K mg base N qual scope f cc cda A outer s H E) [] (start N (.ref x :: ws)) (upd H x (exo x C none)) { s with heap := h', toks := tk } := I.write (x := x) (e := x) (o := exo x C none) (t' := tk) (h' := h') (by rw [hx]; trivial) (.inl rfl) k2 ⟨_, hx2⟩ (exo_ok hx2)
    have eH : upd H x (exo x C none) = H := by
      funext b
      by_cases hb : b = x
      · rw [hb, upd_same, hx]
      · rw [upd_ne hb]
    rw [eH] at J
    refine wpAny_mono (ht.run [] _ (start N (.ref x :: ws)) H _ J hq) (fun fl s' hs => ?_) fun e s' hs => hs
    have fin : ∀ {σ' : L2.St} {H' : Hp} {v : V} {u : Value}, Inv (cxS CX P w K mg base N qual scope f cc cda A outer s H E) [] σ' H' s' → RelV v u → Q v H' → CE outer P w H s Q u s' :=
      fun {σ' H' v u} J rv q => ⟨v, H', J.os, J.bare, J.base, J.hok, rv, q⟩
    cases fl with
    | ret u =>
      obtain ⟨v, σ', H', J, rv, q⟩ := hs
      exact fin J rv q
    | next =>
      obtain ⟨σ', H', J, q⟩ := hs
      exact fin (v := V.non) (u := Value.none) J rfl q
    | brk =>
      obtain ⟨_, _, _, q⟩ := hs
      exact False.elim q
    | cont =>
      obtain ⟨_, _, _, q⟩ := hs
      exact False.elim q
end
end HX
/-! own errors as tracked things: made, read, asked for their class; try .. except X as n with the error tracked; defs that run whether or not an error is handled -/
namespace PySem.W
open PySem PySem.Spec PySem.Calls PyProof.Rows
section
variable {prog : Program} {w : World} {A : Around} {E : Value → Shared → Prop} {s : Shared} {K : Frag} {x D : Addr} {ox : Obj} {od : Option Obj}
theorem hx_classE {Q : Option Value → Shared → Prop} (hga : findIn K (.ref D) "__getattribute__" = some (some (.builtin "BaseException.__getattribute__"))) (hgt : findIn K (.ref D) "__getattr__" = some none) (hsub : subIn K (.ref D) (.type "BaseException") = some true)
    (hdct : hasDictIn K D = true) (ha : findIn K (.ref D) "__class__" = some (some (.builtin "object.__class__")))
    (hn : specialIn K (.builtin "object.__class__") "__get__" = some (some (.builtin "getset_descriptor.__get__"))) (htk : takesIn K (.builtin "object.__class__") = some true) (hm : mroIn K D (.type "object") = some true)
    (X : K.In s.heap) (I : InstAt s.heap x ox D od) (h : Q (some (.ref D)) { s with toks := s.toks + 1 }) : wpAny (model prog w) A (getAttr? (.ref x) "__class__") Q E s := by
  have hf : findObj K D od "__class__" = some (.bind (.builtin "getset_descriptor.__get__") (.builtin "object.__class__")) := by
    have hc : (clsIn K D).isSome = true := by obtain ⟨cd, hc, _⟩ := any_some hdct; rw [hc]; rfl
    cases od with
    | none => exact findObj_dataN hc ha hn htk
    | some o => exact findObj_data hc ha hn htk
  obtain ⟨hp, g, d, t, os⟩ := s
  have L0 := I.type (M := model prog w)
  have L1 := looks_findIn (M := model prog w) X hga
  have L2 := looks_findIn (M := model prog w) X hgt
  have L3 := looks_find (M := model prog w) X I hf
  have sub : Looks (model prog w) hp (isInstance (.ref x) (.type "BaseException")) true := L0.andThen (looks_subIn X hsub)
  have hx0 : (false && onTheHeap (Value.builtin "BaseException.__getattribute__")) = false := rfl
  have hx2 : (Value.builtin "BaseException.__getattribute__" == Value.builtin "object.__getattribute__") = false := by decide +kernel
  have hx1 : (onTheHeap (Value.ref D) && Value.builtin "BaseException.__getattribute__" == Value.builtin "object.__getattribute__") = false := by rw [hx2]; rfl
  unfold getAttr? getAttrBy? getAttrBy
  refine wpAny_bind (wpAny_mkText (wpAny_bind (wpAny_attempt (wpAny_holding (wpAny_bind (L0.at (wpAny_bind (L1.at ?_))))))))
  show wpAny _ _ (if (onTheHeap (Value.ref D) && Value.builtin "BaseException.__getattribute__" == Value.builtin "object.__getattribute__") = true then _ else _) _ _ _
  rw [hx1, if_neg Bool.false_ne_true]
  unfold getAttrByItsOwn hookBefore
  refine wpAny_bind ?_
  rw [if_pos (show onTheHeap (Value.ref D) = true from rfl)]
  refine L2.at ?_
  refine wpAny_bind (wpAny_attempt (wpAny_holding ?_))
  unfold callGetattribute
  rw [hx0, if_neg Bool.false_ne_true]
  unfold boundAndCalled
  rw [PySem.F.excAttr_ValueError.ga.bind (.ref x)]
  refine wpAny_bind (wpAny_pure ?_)
  show wpAny _ _ (call (.builtin "BaseException.__getattribute__") [.ref x, .str "__class__" t]) _ _ _
  refine wpAny_call (codeAny_call_builtin PySem.F.excAttr_ValueError.ga.plain PySem.F.entry_bexc_ga ?_)
  refine @check_slot (model prog w) _ _ ⟨hp, g, d, t + 1, os⟩ "BaseException.__getattribute__" "BaseException" "__getattribute__" (.ref x) [.str "__class__" t] [] _ (by decide +kernel) (by decide +kernel) sub (PySem.F.args_bexc_ga (.ref x) (.str "__class__" t)) ?_
  unfold Builtin.«object.__getattribute__»
  refine wpAny_bind (wpAny_of_eq (a := ((Value.ref x : Value), [Value.str "__class__" t])) (by first | rfl | (simp only [slotArgs]; rfl)) ?_)
  refine wpAny_bind (wpAny_pure (wpAny_bind (L0.at (wpAny_bind (L3.at ?_)))))
  show wpAny _ _ (holding [Value.builtin "object.__class__"] (call (.builtin "getset_descriptor.__get__") [.builtin "object.__class__", .ref x, .ref D]) >>= ret) _ _ _
  refine wpAny_bind (wpAny_holding (wpAny_call (class_get (s := ⟨hp, g, d, t + 1, os⟩) (ox := ox) (od := od) X I hm ?_)))
  refine wpAny_pure ?_
  show wpAny _ _ (handedOut (.ref D)) _ _ _
  rw [handedOut_of (v := .ref D) rfl]
  first
    | exact wpAny_pure (wpAny_pure h)
    | exact wpAny_pure h
    | exact wpAny_pure (wpAny_bind (wpAny_pure (wpAny_pure h)))
theorem hx_kitx (hga : findIn K (.ref D) "__getattribute__" = some (some (.builtin "BaseException.__getattribute__"))) (hgt : findIn K (.ref D) "__getattr__" = some none) (hsub : subIn K (.ref D) (.type "BaseException") = some true) (hdct : hasDictIn K D = true) (ha : findIn K (.ref D) "__class__" = some (some (.builtin "object.__class__")))
    (hn : specialIn K (.builtin "object.__class__") "__get__" = some (some (.builtin "getset_descriptor.__get__"))) (htk : takesIn K (.builtin "object.__class__") = some true) (hm : mroIn K D (.type "object") = some true) :
    KitX K (.ref x) (.ref D) (fun h => InstAt h x ox D od) where
  ty := fun _ _ _ I => I.type
  it := fun _ _ X _ => by
    obtain ⟨cdD, hcD, _⟩ := any_some hdct
    unfold clsIn at hcD
    split at hcD
    · rename_i c' d' cd' sl' ho
      intro A' Q' E' s' k q
      unfold isType loadHead
      exact wpAny_bind (wpAny_loadPart (k _ _ (X _ _ ho)) (wpAny_pure q))
    · cases hcD
  ne := fun h tp dd its n sl X htp => by
    obtain ⟨cdD, hcD, _⟩ := any_some hdct
    refine Bool.eq_false_iff.mpr fun q => ?_
    have e : D = tp := Value.ref.inj (beq_iff_eq.mp q)
    subst e
    unfold clsIn at hcD
    split at hcD
    · rename_i c' d' cd' sl' ho
      have z := (X _ _ ho).symm.trans htp
      cases z
    · cases hcD
  ca := fun X I k => hx_classE hga hgt hsub hdct ha hn htk hm X I k
end
end PySem.W
namespace HX
open PySem PySem.Spec PyProof.Rows L2
/-! ### an error that is tracked -/
/-- at a: an instance of the error class at C, with the dict d -/
def ExAt (H : Hp) (a C : Addr) (d : Option Addr) : Prop := ∃ φ : Heap → Prop, H a = some (.ext φ) ∧ ∀ h, φ h → ∃ (oe : Obj) (vs : Array Value), h.get? a = some oe ∧ oe.cls = .ref C ∧ oe.dict = d ∧ oe.data = .fields vs
/-- at d: the fields of such -/
def XdAt (H : Hp) (d : Addr) (fs : List (Str × V)) : Prop := H d = some (.xd fs) ∨ H d = some (exd d fs)
theorem exAt_exo {H : Hp} {a C : Addr} {d : Option Addr} (h : H a = some (exo a C d)) : ExAt H a C d := ⟨_, h, fun _ ⟨_, e⟩ => ⟨_, _, e, rfl, rfl, rfl⟩⟩
theorem ExAt.mono {H H' : Hp} {a C : Addr} {d : Option Addr} (e : ∀ a o, H a = some o → H' a = some o) (h : ExAt H a C d) : ExAt H' a C d := by
  obtain ⟨φ, h1, h2⟩ := h
  exact ⟨φ, e _ _ h1, h2⟩
theorem XdAt.mono {H H' : Hp} {d : Addr} {fs : List (Str × V)} (e : ∀ a o, H a = some o → H' a = some o) (h : XdAt H d fs) : XdAt H' d fs := h.imp (e _ _) (e _ _)
/-- what the written part says of an error class, for isinstance and fields -/
structure ErrC (K : PySem.W.Frag) (D : Addr) : Prop where
  hg : PySem.W.findIn K (.ref D) "__getattribute__" = some (some (.builtin "BaseException.__getattribute__"))
  hk : PySem.W.findIn K (.ref D) "__getattr__" = some none
  hs : PySem.W.subIn K (.ref D) (.type "BaseException") = some true
  hd : PySem.W.hasDictIn K D = true
  ha : PySem.W.findIn K (.ref D) "__class__" = some (some (.builtin "object.__class__"))
  hn : PySem.W.specialIn K (.builtin "object.__class__") "__get__" = some (some (.builtin "getset_descriptor.__get__"))
  ht : PySem.W.takesIn K (.builtin "object.__class__") = some true
  hm : PySem.W.mroIn K D (.type "object") = some true
section
variable {X : Cx} {pins : List (Addr × Obj)} {σ : L2.St} {H : Hp} {s : Shared}
theorem ExAt.inst (I : Inv X pins σ H s) {a C : Addr} (h : ExAt H a C none) : ∃ ox, PySem.W.InstAt s.heap a ox C none := by
  obtain ⟨φ, h1, h2⟩ := h
  have q : ObjOk X.prog X.w H s.heap a (.ext φ) := I.hok a _ h1
  obtain ⟨oe, vs, e, ec, ed, ef⟩ := h2 _ q.1
  obtain ⟨oc, od, oda, osl⟩ := oe
  dsimp only at ec ed ef
  subst ec ed ef
  exact ⟨_, e, rfl, rfl, trivial⟩
theorem ExAt.instD (I : Inv X pins σ H s) {a C d : Addr} {fs : List (Str × V)} (h : ExAt H a C (some d)) (hd : XdAt H d fs) : ∃ (ox od : Obj) (mA : Str → Option Value), PySem.W.InstAt s.heap a ox C (some od) ∧ (∀ name, PySem.W.lookIn name od = some (mA name)) ∧ ∀ f, RelO (fs.lookup f) (mA f) := by
  obtain ⟨φ, h1, h2⟩ := h
  have q : ObjOk X.prog X.w H s.heap a (.ext φ) := I.hok a _ h1
  obtain ⟨oe, vs, e, ec, ed, ef⟩ := h2 _ q.1
  obtain ⟨mA, hns, hr⟩ : ∃ mA, s.heap.Ns1 d mA ∧ ∀ f, RelO (fs.lookup f) (mA f) := by
    rcases hd with hd | hd
    · have z : ObjOk X.prog X.w H s.heap d (.xd fs) := I.hok d _ hd
      exact z
    · exact exd_at I.hok hd
  obtain ⟨od, ho, hl⟩ := lookIn_ns hns
  obtain ⟨oc, odd, oda, osl⟩ := oe
  dsimp only at ec ed ef
  subst ec ed ef
  exact ⟨_, od, mA, ⟨e, rfl, rfl, ho⟩, hl, hr⟩
/-- isinstance(e, c), e a tracked error -/
def rIsX (K : PySem.W.Frag) : List V → Hp → VK → Prop := fun xs H Q => ∃ (a C : Addr) (d : Option Addr) (fs : List (Str × V)) (c : V) (cv : Value) (b : Bool), xs = [.ref a, c] ∧ ExAt H a C d ∧ (∀ dd, d = some dd → XdAt H dd fs) ∧ ErrC K C ∧ (∀ u, RelV c u → u = cv) ∧ PySem.W.kitOne K (.ref C) cv = some b ∧ Q (.bl b) H
theorem call_isX : CallR X (.builtin "isinstance") (rIsX X.K) := by
  intro pins s σ H xs us Q I r h
  obtain ⟨a, C, d, fs, c, cv, b, rfl, hx, hd, T, hcv, e, q⟩ := h
  cases r with
  | cons rx rr =>
    cases rr with
    | cons rt rr =>
      cases rr
      cases rx
      have ec := hcv _ rt
      subst ec
      obtain ⟨ox, od, J⟩ : ∃ ox od, PySem.W.InstAt s.heap a ox C od := by
        cases d with
        | none =>
          obtain ⟨ox, J⟩ := ExAt.inst I hx
          exact ⟨ox, none, J⟩
        | some dd =>
          obtain ⟨ox, od, _, J, _⟩ := ExAt.instD I hx (hd dd rfl)
          exact ⟨ox, some od, J⟩
      exact PySem.W.kia_one (PySem.W.hx_kitx T.hg T.hk T.hs T.hd T.ha T.hn T.ht T.hm) I.kIn J e (fun z => nomatch z) fun tk => ⟨.bl b, H, I.kept (t' := tk) fun _ _ z => z, rfl, q⟩
/-- e.f, e a tracked error with a dict -/
def tEf (K : PySem.W.Frag) (f : Str) (te : TE) : TE := fun σ H Q => te σ H fun x H1 => ∃ (a C d : Addr) (fs : List (Str × V)) (v : V), x = .ref a ∧ ExAt H1 a C (some d) ∧ XdAt H1 d fs ∧ ErrC K C ∧ PySem.W.findIn K (.ref C) f = some none ∧ fs.lookup f = some v ∧ Q v H1
theorem pe_ef {e : Expr} {te : TE} {pos : Pos} {f : Str} (he : PE X e te) (hb : attributeBase e f X.env (eval e X.env) = eval e X.env := by rfl) : PE X (.Attribute e f pos) (tEf X.K f te) := by
  refine ⟨fun pins s σ H Q I h => ?_⟩
  refine attr_of hb (thn (he.run pins s σ H _ I h) fun u s1 hh => ?_)
  obtain ⟨x, H1, I1, rx, a, C, d, fs, v, ex, hx, hd, T, hno, l, q⟩ := hh
  subst ex
  obtain rfl : u = Value.ref a := rx
  obtain ⟨ox, od, mA, J, hl, hr⟩ := ExAt.instD I1 hx hd
  obtain ⟨w', hw, rw'⟩ := RelO.some_of (v := v) (o := mA f) (by rw [← l]; exact hr f)
  exact HandSPX.exc_get I1.kIn J T.hg T.hk T.hs (PySem.W.findObj_own T.hd hno rfl (by rw [hl, hw])) (handed_of rw') ⟨v, H1, I1.tok _, rw', q⟩
/-! ### making one as a value -/
/-- C(e, ..) as a value: the new error stays tracked -/
def tMkV (C : Addr) (sp : Sp) (ta : TA) : TE := fun σ H Q => ta σ H fun vs H1 => vs.length ≤ 1000 ∧ ∀ a, H1 a = none → sp (.ref a :: vs) (upd H1 a (exo a C none)) (fun v H2 => v = .non ∧ Q (.ref a) H2) (fun _ _ _ => False)
theorem mkv_call {CX : CXT} {C fI : Addr} {k : Nat} {fd : FuncData} {ps : List Str} {sp : Sp} (T : OexC X.K C) (iC : PySem.W.findIn X.K (.ref C) "__init__" = some (some (.ref fI))) (tI : PySem.W.typeIn X.K (.ref fI) = some (.type "function"))
    (F1 : FnOk X.prog X.w X.K X.mg X.base CX k fI fd ps sp) (hr : Room (k + 1) X.A) (hb : Binds X.K fd ps []) (hx : Passes CX X (fun _ _ _ => False)) {us : List Value} {vs : List V} {s1 : Shared} {H1 : Hp} {Q : VK} (I1 : Inv X pins σ H1 s1) (r1 : Vals vs us) (hz : vs.length ≤ 1000)
    (q1 : ∀ a, H1 a = none → sp (.ref a :: vs) (upd H1 a (exo a C none)) (fun v H2 => v = .non ∧ Q (.ref a) H2) (fun _ _ _ => False)) :
    wpAny (model X.prog X.w) X.A (call (.ref C) us) (EP X pins σ Q) X.xe s1 := by
  obtain ⟨nm, q, N, bs, bm, sn, sub, ab, col, dd, k0, k1, k2, k3, k5, hC, hbm⟩ := T.cls
  obtain ⟨hp, g, dr, tk, os⟩ := s1
  have hsz : hp.objs.size ≤ hp.objs.size + 1 := Nat.le_succ _
  have hn : H1 (hp.objs.size + 1) = none := I1.hok.fresh hsz
  have hq := q1 (hp.objs.size + 1) hn
  have kk : ∀ b o, hp.get? b = some o → ((hp.push (PySem.W.kdv_tup us)).push (PySem.HandSPX.excO C hp.objs.size)).get? b = some o := fun b o e => Heap.get?_push_of_some _ (Heap.get?_push_of_some _ e)
  have hget : ((hp.push (PySem.W.kdv_tup us)).push (PySem.HandSPX.excO C hp.objs.size)).get? (hp.objs.size + 1) = some (PySem.HandSPX.excO C hp.objs.size) := by heap_get
  have I2 : Inv X pins σ (upd H1 (hp.objs.size + 1) (exo (hp.objs.size + 1) C none)) ⟨(hp.push (PySem.W.kdv_tup us)).push (PySem.HandSPX.excO C hp.objs.size), g, dr, tk, os⟩ :=
    I1.laid (t' := tk) (a := hp.objs.size + 1) (o := exo (hp.objs.size + 1) C none) (h' := (hp.push (PySem.W.kdv_tup us)).push (PySem.HandSPX.excO C hp.objs.size)) kk hsz (exo_ok hget)
  have r2 : Vals (V.ref (hp.objs.size + 1) :: vs) (Value.ref (hp.objs.size + 1) :: us) := .cons rfl r1
  have hl : (Value.ref (hp.objs.size + 1) :: us).length = ps.length := by
    have e := r2.length
    rw [F1.len _ _ _ _ hq] at e
    exact e.symm
  have hus : us.length ≤ sizeLine := by
    rw [← Paired.length r1, sizeLine_eq]
    omega
  have hbb := hb ⟨(hp.push (PySem.W.kdv_tup us)).push (PySem.HandSPX.excO C hp.objs.size), g, dr, tk, os⟩ (Value.ref (hp.objs.size + 1) :: us) I2.kIn (by rw [List.append_nil]; exact hl)
  rw [List.append_nil] at hbb
  refine wpAny_call (PySem.HandSPX.call_own F.excBase_ValueError (fun Y => PySem.HandSPX.refsVE_contains Y bm hbm) (I1.kIn _ _ hC) (PySem.W.looks_findIn I1.kIn iC) (fun self => PySem.W.bind_fn I1.kIn self tI) hus
    (codeAny_mono (F1.run _ X.stack _ _ ⟨Value.ref (hp.objs.size + 1) :: us, []⟩ (Value.ref (hp.objs.size + 1) :: us) _ _ (fun _ _ _ => False) (hr.make C us []) (I2.env0.make C us []) hbb r2 hq) fun r s' hq' => ?_))
  cases r with
  | error er => exact hx pins σ _ _ er s' I2 hq'
  | ok fl =>
    cases fl with
    | ret u =>
      have J := I2.after (Q := fun v H2 => v = .non ∧ Q (.ref (hp.objs.size + 1)) H2) (u := u) hq'
      obtain ⟨v, H2, J, rv, ev, q2⟩ := J
      subst ev
      exact ⟨rv, .ref (hp.objs.size + 1), H2, J, rfl, q2⟩
    | next => exact False.elim hq'
    | brk => exact False.elim hq'
    | cont => exact False.elim hq'
variable {CX : CXT} {x : Str} {C fI : Addr} {k : Nat} {fd : FuncData} {ps : List Str} {sp : Sp} {e : Expr} {es : List Expr} {ta : TA} {p pos : Pos}
theorem pe_mkV (T : OexC X.K C) (iC : PySem.W.findIn X.K (.ref C) "__init__" = some (some (.ref fI))) (tI : PySem.W.typeIn X.K (.ref fI) = some (.type "function"))
    (F1 : FnOk X.prog X.w X.K X.mg X.base CX k fI fd ps sp) (hr : Room (k + 1) X.A) (hb : Binds X.K fd ps []) (hx : Passes CX X (fun _ _ _ => False)) (hm : X.mg x = some (.ref C)) (ha : PA X (e :: es) ta) (hg : Gl X x := by rfl)
    (hdb : (x == ("__debug__" : Str)) = false := by decide) (he : starEach (e :: es) X.env = (false, eval e X.env) :: starEach es X.env := by rfl) (hpl : (backTo pos (starEach es X.env)).any (·.1) = false := by rfl) :
    PE X (.Call (.Name x p) (e :: es) [] pos) (tMkV C sp ta) := by
  refine ⟨fun pins s σ H Q I h => ?_⟩
  refine wpAny_Call_Name_kw (ld_glob I hg hm ?_ hdb)
  refine PySem.W.callWith_K (h₀ := X.base) I.ok.mod.kin T.kC (thn (ha.run pos pins s σ H _ I h) fun us s1 ⟨vs, H1, I1, r1, hz, q1⟩ => ⟨I1.kIn, ?_⟩) he hpl
  exact mkv_call T iC tI F1 hr hb hx I1 r1 hz q1
theorem pe_mkV0 (T : OexC X.K C) (iC : PySem.W.findIn X.K (.ref C) "__init__" = some (some (.ref fI))) (tI : PySem.W.typeIn X.K (.ref fI) = some (.type "function"))
    (F1 : FnOk X.prog X.w X.K X.mg X.base CX k fI fd ps sp) (hr : Room (k + 1) X.A) (hb : Binds X.K fd ps []) (hx : Passes CX X (fun _ _ _ => False)) (hm : X.mg x = some (.ref C)) (hg : Gl X x := by rfl)
    (hdb : (x == ("__debug__" : Str)) = false := by decide) : PE X (.Call (.Name x p) [] [] pos) (tMkV C sp tNil) := by
  refine ⟨fun pins s σ H Q I h => ?_⟩
  refine wpAny_Call_Name_kw (ld_glob I hg hm ?_ hdb)
  exact PySem.W.callWith_K0 I.kIn T.kC (mkv_call (us := []) (vs := []) T iC tI F1 hr hb hx I .nil (Nat.zero_le _) h.2)
end
end HX
namespace HX
open PySem PySem.Spec PyProof.Rows L2
section
variable {X : Cx} {pins : List (Addr × Obj)} {σ : L2.St} {H : Hp} {s : Shared}
/-- an error that was made goes out of what is tracked (its dict stays) -/
theorem mkx_end {H1 H2 : Hp} {Q : XK} {hp hp2 h2 : Heap} {g1 g2 : Array GenState} {d1 d2 : Drawn} {t1 t2 : Nat} {os1 os2 : OsState} {a C : Addr} {d : Option Addr} (T : Raises X (.ref C)) (I1 : Inv X pins σ H1 ⟨hp, g1, d1, t1, os1⟩)
    (ha : hp.objs.size ≤ a) (k : ∀ b o, hp.get? b = some o → hp2.get? b = some o) (un : Un (frs X.stack) [] (upd H1 a (exo a C none)) H2 hp2 h2) (hok : HOk X.prog X.w H2 h2) (ho : os2 = os1) (hb : AllBare g2)
    (ea : H2 a = some (exo a C d)) (q : Q (.ref C) d (del H2 a)) : MkP X pins σ Q (.ref a) ⟨h2, g2, d2, t2, os2⟩ := by
  obtain ⟨t0, hoe⟩ := exo_at hok ea
  have hn : H1 a = none := I1.hok.fresh ha
  obtain ⟨G, g1', g2'⟩ := restrict h2 fun b => decide (b ≠ a)
  have gk : ∀ b, b ≠ a → G.get? b = h2.get? b := fun b hb => g1' b (decide_eq_true hb)
  have ge : G.get? a = none := g2' a (by simp)
  have nha : ∀ {b : Addr} {o : Obj}, hp.get? b = some o → b ≠ a := fun {b o} z => Nat.ne_of_lt (Nat.lt_of_lt_of_le (Heap.lt_size z) ha)
  have up : ∀ {b : Addr}, b ≠ a → H1 b = none → upd H1 a (exo a C none) b = none := fun {b} hb n => by rw [upd_ne hb]; exact n
  have U : Un (frs X.stack) [] H1 (del H2 a) hp G := {
    keep := fun b o z n hf hx => by
      rw [gk b (nha z)]
      exact un.keep b o (k b o z) (up (nha z) n) hf hx
    slot := fun b o z n hf hx => by
      rw [gk b (nha z)]
      exact un.slot b o (k b o z) (up (nha z) n) hf hx
    free := fun b o z n hx => by
      rw [del_ne (nha z)]
      exact un.free b o (k b o z) (up (nha z) n) hx
    there := fun b o z hx => by
      rw [gk b (nha z)]
      exact un.there b o (k b o z) hx
    tups := fun b xs z => by
      rw [del_ne (ne_of_none z hn)]
      exact un.tups b xs (by rw [upd_ne (ne_of_none z hn)]; exact z)
    frzs := fun b o v z => by
      rw [del_ne (ne_of_none z hn)]
      exact un.frzs b o v (by rw [upd_ne (ne_of_none z hn)]; exact z)
    tbls := fun b ps z => by
      rw [del_ne (ne_of_none z hn)]
      exact un.tbls b ps (by rw [upd_ne (ne_of_none z hn)]; exact z) }
  have hok3 : HOk X.prog X.w (del H2 a) G := fun b o z => by
    have hba : b ≠ a := fun e => by
      rw [e, del_same] at z
      cases z
    rw [del_ne hba] at z
    have noa : ∀ {c : Addr}, H2 c = some (.own b) → c ≠ a := fun {c} hc => at_ne ea hc exo_own
    exact (hok b o z).stay (fun c v hc y => by
        have hca : c ≠ a := by
          rcases hc with hc | hc
          · rw [hc]
            exact hba
          · exact noa hc
        rw [gk c hca]
        exact y)
      (fun c hc => by rw [del_ne (noa hc)]; exact hc) (fun c xs hc => by rw [del_ne (at_ne ea hc exo_tup)]; exact hc)
  have J : Inv X pins σ (del H2 a) ⟨G, g2, d2, t2, os2⟩ := I1.call' (ch := []) ho U hok3 hb (fun b z => absurd z (by simp))
  refine ⟨a, _, _, ⟨G, g2, d2, t2, os2⟩, _, .ref C, d, rfl, J, fun b o z => ?_, ge, hoe, ⟨rfl, rfl⟩, rfl, rfl, del_same, rfl, hb, T, q⟩
  by_cases hba : b = a
  · rw [hba, ge] at z
    cases z
  · exact (gk b hba).symm.trans z
/-- C(e, ..) in a raise -/
def tMkX (C : Addr) (sp : Sp) (ta : TA) : L2.St → Hp → XK → Prop := fun σ H Q => ta σ H fun vs H1 => vs.length ≤ 1000 ∧ ∀ a, H1 a = none → sp (.ref a :: vs) (upd H1 a (exo a C none))
  (fun v H2 => v = .non ∧ ∃ d, H2 a = some (exo a C d) ∧ Q (.ref C) d (del H2 a)) (fun _ _ _ => False)
theorem mkx_call {CX : CXT} {C fI : Addr} {k : Nat} {fd : FuncData} {ps : List Str} {sp : Sp} (T : OexC X.K C) (iC : PySem.W.findIn X.K (.ref C) "__init__" = some (some (.ref fI))) (tI : PySem.W.typeIn X.K (.ref fI) = some (.type "function"))
    (F1 : FnOk X.prog X.w X.K X.mg X.base CX k fI fd ps sp) (hr : Room (k + 1) X.A) (hb : Binds X.K fd ps []) (hx : Passes CX X (fun _ _ _ => False)) {us : List Value} {vs : List V} {s1 : Shared} {H1 : Hp} {Q : XK} (I1 : Inv X pins σ H1 s1) (r1 : Vals vs us) (hz : vs.length ≤ 1000)
    (q1 : ∀ a, H1 a = none → sp (.ref a :: vs) (upd H1 a (exo a C none)) (fun v H2 => v = .non ∧ ∃ d, H2 a = some (exo a C d) ∧ Q (.ref C) d (del H2 a)) (fun _ _ _ => False)) :
    wpAny (model X.prog X.w) X.A (call (.ref C) us) (MkP X pins σ Q) X.xe s1 := by
  obtain ⟨nm, q, N, bs, bm, sn, sub, ab, col, dd, k0, k1, k2, k3, k5, hC, hbm⟩ := T.cls
  obtain ⟨hp, g, dr, tk, os⟩ := s1
  have hsz : hp.objs.size ≤ hp.objs.size + 1 := Nat.le_succ _
  have hn : H1 (hp.objs.size + 1) = none := I1.hok.fresh hsz
  have hq := q1 (hp.objs.size + 1) hn
  have kk : ∀ b o, hp.get? b = some o → ((hp.push (PySem.W.kdv_tup us)).push (PySem.HandSPX.excO C hp.objs.size)).get? b = some o := fun b o e => Heap.get?_push_of_some _ (Heap.get?_push_of_some _ e)
  have hget : ((hp.push (PySem.W.kdv_tup us)).push (PySem.HandSPX.excO C hp.objs.size)).get? (hp.objs.size + 1) = some (PySem.HandSPX.excO C hp.objs.size) := by heap_get
  have I2 : Inv X pins σ (upd H1 (hp.objs.size + 1) (exo (hp.objs.size + 1) C none)) ⟨(hp.push (PySem.W.kdv_tup us)).push (PySem.HandSPX.excO C hp.objs.size), g, dr, tk, os⟩ :=
    I1.laid (t' := tk) (a := hp.objs.size + 1) (o := exo (hp.objs.size + 1) C none) (h' := (hp.push (PySem.W.kdv_tup us)).push (PySem.HandSPX.excO C hp.objs.size)) kk hsz (exo_ok hget)
  have r2 : Vals (V.ref (hp.objs.size + 1) :: vs) (Value.ref (hp.objs.size + 1) :: us) := .cons rfl r1
  have hl : (Value.ref (hp.objs.size + 1) :: us).length = ps.length := by
    have e := r2.length
    rw [F1.len _ _ _ _ hq] at e
    exact e.symm
  have hus : us.length ≤ sizeLine := by
    rw [← Paired.length r1, sizeLine_eq]
    omega
  have hbb := hb ⟨(hp.push (PySem.W.kdv_tup us)).push (PySem.HandSPX.excO C hp.objs.size), g, dr, tk, os⟩ (Value.ref (hp.objs.size + 1) :: us) I2.kIn (by rw [List.append_nil]; exact hl)
  rw [List.append_nil] at hbb
  refine wpAny_call (PySem.HandSPX.call_own F.excBase_ValueError (fun Y => PySem.HandSPX.refsVE_contains Y bm hbm) (I1.kIn _ _ hC) (PySem.W.looks_findIn I1.kIn iC) (fun self => PySem.W.bind_fn I1.kIn self tI) hus
    (codeAny_mono (F1.run _ X.stack _ _ ⟨Value.ref (hp.objs.size + 1) :: us, []⟩ (Value.ref (hp.objs.size + 1) :: us) _ _ (fun _ _ _ => False) (hr.make C us []) (I2.env0.make C us []) hbb r2 hq) fun r s' hq' => ?_))
  cases r with
  | error er => exact hx pins σ _ _ er s' I2 hq'
  | ok fl =>
    cases fl with
    | ret u =>
      obtain ⟨v, H2, os2, bare2, un2, hok2, rv, ev, d, ea, q2⟩ := hq'
      subst ev
      obtain ⟨h2, g2, d2, t2, os'⟩ := s'
      exact ⟨rv, mkx_end (raises_own T.exC T.tyC) I1 hsz kk un2 hok2 os2 bare2 ea q2⟩
    | next => exact False.elim hq'
    | brk => exact False.elim hq'
    | cont => exact False.elim hq'
variable {CX : CXT} {x : Str} {C fI : Addr} {k : Nat} {fd : FuncData} {ps : List Str} {sp : Sp} {e : Expr} {es : List Expr} {ta : TA} {p pos : Pos}
theorem pmk_x (T : OexC X.K C) (iC : PySem.W.findIn X.K (.ref C) "__init__" = some (some (.ref fI))) (tI : PySem.W.typeIn X.K (.ref fI) = some (.type "function"))
    (F1 : FnOk X.prog X.w X.K X.mg X.base CX k fI fd ps sp) (hr : Room (k + 1) X.A) (hb : Binds X.K fd ps []) (hx : Passes CX X (fun _ _ _ => False)) (hm : X.mg x = some (.ref C)) (ha : PA X (e :: es) ta) (hg : Gl X x := by rfl)
    (hdb : (x == ("__debug__" : Str)) = false := by decide) (he : starEach (e :: es) X.env = (false, eval e X.env) :: starEach es X.env := by rfl) (hpl : (backTo pos (starEach es X.env)).any (·.1) = false := by rfl) :
    PMk X (.Call (.Name x p) (e :: es) [] pos) (tMkX C sp ta) := by
  intro pins s σ H Q I h
  refine wpAny_Call_Name_kw (ld_glob I hg hm ?_ hdb)
  refine PySem.W.callWith_K (h₀ := X.base) I.ok.mod.kin T.kC (thn (ha.run pos pins s σ H _ I h) fun us s1 ⟨vs, H1, I1, r1, hz, q1⟩ => ⟨I1.kIn, ?_⟩) he hpl
  exact mkx_call T iC tI F1 hr hb hx I1 r1 hz q1
theorem pmk_x0 (T : OexC X.K C) (iC : PySem.W.findIn X.K (.ref C) "__init__" = some (some (.ref fI))) (tI : PySem.W.typeIn X.K (.ref fI) = some (.type "function"))
    (F1 : FnOk X.prog X.w X.K X.mg X.base CX k fI fd ps sp) (hr : Room (k + 1) X.A) (hb : Binds X.K fd ps []) (hx : Passes CX X (fun _ _ _ => False)) (hm : X.mg x = some (.ref C)) (hg : Gl X x := by rfl)
    (hdb : (x == ("__debug__" : Str)) = false := by decide) : PMk X (.Call (.Name x p) [] [] pos) (tMkX C sp tNil) := by
  intro pins s σ H Q I h
  refine wpAny_Call_Name_kw (ld_glob I hg hm ?_ hdb)
  exact PySem.W.callWith_K0 I.kIn T.kC (mkx_call (us := []) (vs := []) T iC tI F1 hr hb hx I .nil (Nat.zero_le _) h.2)
end
/-! ### the suite of an except clause, the error tracked -/
section
variable {X : Cx} {pins : List (Addr × Obj)} {σ : L2.St} {H : Hp} {s : Shared}
/-- at a: what is known of a caught error -/
def exF (a : Addr) (cls : Value) (d : Option Addr) : HO := .ext fun h => ∃ (oe : Obj) (vs : Array Value), h.get? a = some oe ∧ oe.cls = cls ∧ oe.dict = d ∧ oe.data = .fields vs
theorem exAt_exF {H : Hp} {a C : Addr} {d : Option Addr} (h : H a = some (exF a (.ref C) d)) : ExAt H a C d := ⟨_, h, fun _ z => z⟩
theorem inv_suiteT (I : Inv X pins σ H s) (a : Addr) : Inv (X.suite a (X.pn ++ pins)) [] σ H s :=
  ⟨I.ok.suite _ _, I.os, I.bare, I.base, I.loc, I.cell, I.free, I.freeC, fun p hp => I.pin p (by rw [List.append_nil] at hp; exact hp), I.hok, I.len⟩
theorem inv_unsuiteT {a : Addr} {pn' : List (Addr × Obj)} (I : Inv (X.suite a (X.pn ++ pins)) pn' σ H s) (ok : X.Ok) : Inv X pins σ H s :=
  ⟨ok, I.os, I.bare, I.base, I.loc, I.cell, I.free, I.freeC, fun p hp => I.pin p (List.mem_append_left _ hp), I.hok, I.len⟩
/-- a known object that stood not at the entry is tracked -/
theorem inv_track (I : Inv X pins σ H s) {a : Addr} {cls : Value} {d : Option Addr} {oe : Obj} {vs : Array Value} (n0 : X.s_0.heap.get? a = none) (ha : s.heap.get? a = some oe) (hz : Zc cls d oe) (hd : oe.data = .fields vs) (na : H a = none) (nL : a ≠ X.env.locals)
    (np : ∀ p ∈ X.pn ++ pins, p.1 ≠ a) : Inv X pins σ (upd H a (exF a cls d)) s := by
  have new : ObjOk X.prog X.w (upd H a (exF a cls d)) s.heap a (exF a cls d) := ⟨⟨oe, vs, ha, hz.1, hz.2, hd⟩, ⟨oe, ha⟩, fun h1 h2 ⟨o, v, q, r⟩ k => ⟨o, v, k o q, r⟩⟩
  have ne0 : ∀ b o, X.s_0.heap.get? b = some o → b ≠ a := fun b o e z => by
    rw [z, n0] at e
    cases e
  refine ⟨I.ok, I.os, I.bare, ⟨I.base.keep, I.base.slot, fun b o e n hx => ?_, I.base.there, fun b xs e => ?_, fun b o u e => ?_, fun b ps e => ?_⟩, I.loc, I.cell, ?_, fun y c e => ?_, fun p hp => ?_, fun b u e => ?_, I.len⟩
  · rw [upd_ne (ne0 b o e)]
    exact I.base.free b o e n hx
  · have q := I.base.tups b xs e
    rw [upd_ne (ne_of_none q na)]
    exact q
  · have q := I.base.frzs b o u e
    rw [upd_ne (ne_of_none q na)]
    exact q
  · obtain ⟨m, q⟩ := I.base.tbls b ps e
    exact ⟨m, by rw [upd_ne (ne_of_none q na)]; exact q⟩
  · rw [upd_ne (Ne.symm nL)]
    exact I.free
  · have hc : c ≠ a := fun z => by
      obtain ⟨v, o, q, r⟩ := I.cell y c e
      rw [z, ha] at q
      cases q
      rw [hd] at r
      cases r
    rw [upd_ne hc]
    exact I.freeC y c e
  · obtain ⟨e, n, ne, nf, dd⟩ := I.pin p hp
    exact ⟨e, by rw [upd_ne (np p hp)]; exact n, ne, nf, dd⟩
  · by_cases hb : b = a
    · subst hb
      rw [upd_same] at e
      cases e
      exact new
    · rw [upd_ne hb] at e
      exact (I.hok b u e).stay (fun c v _ q => q) (fun c q => by rw [upd_ne (ne_of_none q na)]; exact q) fun c xs q => by rw [upd_ne (ne_of_none q na)]; exact q
end
/-- what 'except x as n' wishes: the error stays tracked -/
def wAsT (K : PySem.W.Frag) (c : Value) (i : Nat) (ts : TS) (Wout : WX) (D : Ends) : WX := fun cls d σ H =>
  ∃ b, PySem.W.exmOne K cls c = some b ∧ (b = true → ∀ a, H a = none → ts { nx := fun σ' H' => D.nx (σ'.set i none) H', rt := D.rt, bk := fun σ' H' => D.bk (σ'.set i none) H', ct := fun σ' H' => D.ct (σ'.set i none) H' } (σ.set i (some (.ref a))) (upd H a (exF a cls d))) ∧
    (b = false → Wout cls d σ H)
section
variable {X : Cx} {x n : Str} {c : Value} {i : Nat} {body suite : List Stmt} {b₀ : Stmt} {np pos pos' : Pos} {tb : WX → TS} {ts : TS} {Wout : WX}
theorem ps_tryT (hs : X.stack = X.env :: X.outer) (hf : X.env.frame = some X.env.locals) (hex : X.ex = []) (hN : X.N.Nodup) (hi : X.N[i]? = some n) (hln : X.env.kindOf n = some .local) (hc : Names X x c) (tk : Takes X Wout)
    (hb : ∀ (W : WX) (pn : List (Addr × Obj)) (xe : Value → Shared → Prop), Takes (X.tr pn xe) W → PassesOwn (model X.prog X.w) X.A X.env xe → PSs (X.tr pn xe) body (tb W))
    (hsu : ∀ (a : Addr) (pn : List (Addr × Obj)), PSs (X.suite a pn) (b₀ :: suite) ts) :
    PS X (.Try body [.ExceptHandler (some (.Name x np)) (some n) (b₀ :: suite) pos'] [] [] pos) (fun D σ H => tb (wAsT X.K c i ts Wout D) D σ H) := by
  refine ⟨fun pins s σ H D I h => ?_⟩
  have ok := I.ok
  have hfr : X.A.frames = some (X.env :: X.outer) := by rw [ok.frames, hs]
  have hloc : Loc X.env.scope n := .inl hln
  refine wpAny_Try_except ?_
  refine wpAny_mono ((hb (wAsT X.K c i ts Wout D) (X.pn ++ pins) (fun e s₁ => wpAny (model X.prog X.w) X.A (noteFrame e X.env) (fun _ s₂ => wpAny (model X.prog X.w) X.A (setFlight e none) (fun _ s₃ =>
    wpAny (model X.prog X.w) X.A (handleBy e X.env [.ExceptHandler (some (.Name x np)) (some n) (b₀ :: suite) pos']) (SP X pins D) X.xe s₃) X.xe s₂) X.xe s₁) (fun u s' xx => ?_) PassesOwn.looking).run [] s σ H D (I.toTry _) h) (fun f s1 hsp => ?_) (fun e s1 he => he)
  · -- the catch
    obtain ⟨a, B, sI, pins', σ', H', cls, d, rfl, J', nb, up, sky, na, os, ag, b, hb1, hyes, hno⟩ := xx
    have J : Inv X pins σ' H' sI := J'.ofTry ok
    have sky' : Sky B (X.env :: X.outer) a (Zc cls d) X.env.locals s'.heap := by rw [← hs]; exact sky
    show wpAny (model X.prog X.w) X.A (noteFrame (.ref a) X.env) _ _ _
    refine Sky.land Zc.steady hfr hf sky' fun h3 fl3 up3 => ?_
    have J3 : Inv X pins σ' H' { s' with heap := h3 } := J.landed nb fl3.1 (up.trans up3) os ag
    obtain ⟨oe3, vs3, he3, hz3, hd3⟩ := fl3.there
    have notFr : ∀ {h : Heap} {o : Obj} {vs : Array Value}, h.FunFrames B (X.env :: X.outer) → h.get? a = some o → o.data = .fields vs → a ∉ frs (X.env :: X.outer) := fun {h o vs} ff e dd hm => by
      obtain ⟨_, o', e', hnf⟩ := ff.mem hm
      rw [e] at e'; cases e'
      exact hnf _ dd
    have nfr := notFr fl3.2.2.1 he3 hd3
    have nL : a ≠ X.env.locals := fun z => nfr (List.mem_filterMap.mpr ⟨X.env, List.mem_cons_self, by rw [hf, z]⟩)
    have nF : a ∉ X.fs := fun hm => by
      obtain ⟨e, he, q⟩ := List.mem_filterMap.mp hm
      exact nfr (List.mem_filterMap.mpr ⟨e, List.mem_cons_of_mem _ he, q⟩)
    have nI : sI.heap.get? a = none := by
      cases e : sI.heap.get? a with
      | none => rfl
      | some o =>
        have q := nb a o e (by rw [hs]; exact nfr)
        rw [fl3.2.1] at q
        cases q
    have n0 : X.s_0.heap.get? a = none := by
      cases e : X.s_0.heap.get? a with
      | none => rfl
      | some o =>
        obtain ⟨o', q⟩ := J.base.there a o e (by rw [hex]; exact fun z => nomatch z)
        rw [nI] at q
        cases q
    have np' : ∀ p ∈ X.pn ++ pins, p.1 ≠ a := fun p hp z => by
      have q := (J.pin p hp).1
      rw [z, nI] at q
      cases q
    have S3 := J3.suite he3 hd3 na nL nF
    refine wpAny_handleBy_cons (codeAny_handlers_test ?_) (by intro q; cases q)
    have LT : PySem.W.Looks (model X.prog X.w) h3 (typeOf (.ref a)) cls := fun A Q E s k q => wpAny_typeOf_ref (k _ _ he3) (by rw [hz3.1]; exact q)
    have LM := PySem.W.exm_one (M := model X.prog X.w) (J3.kIn) LT hb1
    have test : ∀ {Q : Value → Shared → Prop} {E : Value → Shared → Prop}, Q c { s' with heap := h3 } → wpAny (model X.prog X.w) (X.A.mark (some (.ref a))) (eval (.Name x np) X.env) Q E { s' with heap := h3 } := fun {Q E} q => by
      obtain ⟨hg, hdbg, hm | ⟨hm, hv, hnn⟩⟩ := hc
      · exact ld_glob (X := X.suite a ((a, oe3) :: (X.pn ++ pins))) S3 hg hm q hdbg
      · exact ld_blt (X := X.suite a ((a, oe3) :: (X.pn ++ pins))) S3 hg hm hv q hnn hdbg
    refine test (LM.here ?_)
    cases b with
    | true =>
      refine codeAny_handlers_suite_as ?_
      refine HandSPX.lands_againZ fl3 fun h4 fl4 up4 => ?_
      have J4 : Inv X pins σ' H' { s' with heap := h4 } := J.landed nb fl4.1 ((up.trans up3).trans up4) os ag
      obtain ⟨oe4, vs4, he4, hz4, hd4⟩ := fl4.there
      have S4 : Inv (X.suite a (X.pn ++ pins)) [] σ' (upd H' a (exF a cls d)) { s' with heap := h4 } := inv_suiteT (inv_track J4 n0 he4 hz4 hd4 na nL np') a
      refine store_ok (X := X.suite a (X.pn ++ pins)) (v := .ref a) S4 hN hi hloc rfl (fun s5 S5 => ?_) (.inr hln)
      refine wpAny_mono ((hsu a (X.pn ++ pins)).run [] s5 _ _ _ S5 (hyes rfl a na)) (fun f s6 hsp => ?_) (fun _ _ z => False.elim z)
      have end_ : ∀ {σ6 : L2.St} {H6 : Hp} {Q : Shared → Prop}, Inv (X.suite a (X.pn ++ pins)) [] σ6 H6 s6 → (∀ s7, Inv X pins (σ6.set i none) H6 s7 → Q s7) →
          wpAny (model X.prog X.w) X.A (do bindName X.env n .none; unbindBehindTheSuite X.env n pos') (fun _ s7 => Q s7) X.xe s6 := fun {σ6 H6 Q} S6 hq => gone_ok (inv_unsuiteT S6 ok) hN hi hln hq
      cases f with
      | next =>
        obtain ⟨σ6, H6, S6, q6⟩ := hsp
        exact end_ S6 fun s7 J7 => ⟨_, _, J7, q6⟩
      | brk =>
        obtain ⟨σ6, H6, S6, q6⟩ := hsp
        exact end_ S6 fun s7 J7 => ⟨_, _, J7, q6⟩
      | cont =>
        obtain ⟨σ6, H6, S6, q6⟩ := hsp
        exact end_ S6 fun s7 J7 => ⟨_, _, J7, q6⟩
      | ret u =>
        obtain ⟨v6, σ6, H6, S6, r6, q6⟩ := hsp
        exact end_ S6 fun s7 J7 => ⟨_, _, _, J7, r6, q6⟩
    | false =>
      show wpAny _ X.A (handleBy (.ref a) X.env []) _ _ _
      refine wpAny_handleBy_nil ?_
      obtain ⟨k1, k2, k3, oe, vs, T, oT, ts', he, hz, hd, h1, hr⟩ := id fl3
      unfold PySem.passOn
      refine wpAny_bind (wpAny_field he hd h1 ?_)
      rw [if_neg (show ¬ ((Value.ref T == Value.none) = true) from by simp)]
      have fin : wpAny (model X.prog X.w) X.A (setFlight (.ref a) X.env.frame) (fun _ s4 => wpAny (model X.prog X.w) X.A (throw (.ref a) : Sem Flow) (SP X pins D) X.xe s4) X.xe { s' with heap := h3 } := by
        rw [hf]
        refine HandSPX.setFlight_upZ fl3 fun h4 hh4 up4 => wpAny_throw (tk _ _ ?_)
        exact ⟨a, B, sI, pins, σ', H', cls, d, rfl, J, nb, (up.trans up3).trans up4, .inr (.inr (by rw [hs]; exact hh4)), na, os, ag, hno rfl⟩
      first
        | exact wpAny_bind (wpAny_pure (wpAny_bind fin))
        | exact wpAny_bind fin
  · cases f with
    | next =>
      obtain ⟨σ', H', J', q⟩ := hsp
      exact wpAny_execs_nil ⟨σ', H', J'.ofTry ok, q⟩
    | brk =>
      obtain ⟨σ', H', J', q⟩ := hsp
      exact ⟨σ', H', J'.ofTry ok, q⟩
    | cont =>
      obtain ⟨σ', H', J', q⟩ := hsp
      exact ⟨σ', H', J'.ofTry ok, q⟩
    | ret u =>
      obtain ⟨v, σ', H', J', r, q⟩ := hsp
      exact ⟨v, σ', H', J'.ofTry ok, r, q⟩
end
/-! ### defs that run whether or not an error is handled -/
structure FnW (P : Program) (w : World) (K : PySem.W.Frag) (mg : Str → Option Value) (base : Heap) (CX : CXT) (k : Nat) (f : Addr) (fd : FuncData) (ps : List Str) (sp : Sp) : Prop where
  len : ∀ vs H Q E, sp vs H Q E → vs.length = ps.length
  run : ∀ (A : Around) (outer : List Env) (s : Shared) (H : Hp) (args : Args) (us : List Value) (vs : List V) (Q : VK) (E : XK), L2H.RoomH k A → Env0 P w K mg base A outer s H → BindsTo s fd args (ps.zip us) → Vals vs us → sp vs H Q E →
    codeAny (model P w) A (.call (.ref f) args) (CR CX outer P w H s Q E) s
theorem FnW.ok {P : Program} {w : World} {K : PySem.W.Frag} {mg : Str → Option Value} {base : Heap} {CX : CXT} {k : Nat} {f : Addr} {fd : FuncData} {ps : List Str} {sp : Sp} (F : FnW P w K mg base CX k f fd ps sp) : FnOk P w K mg base CX k f fd ps sp :=
  ⟨F.len, fun A outer s H args us vs Q E hr => F.run A outer s H args us vs Q E (L2H.roomH_of hr)⟩
def cxW (CX : CXT) (P : Program) (w : World) (K : PySem.W.Frag) (mg : Str → Option Value) (base : Heap) (N : List Str) (qual : Str) (scope : Scope) (f : Addr) (cd : Value) (A : Around) (outer : List Env) (s : Shared) (H : Hp) (E : XK) : Cx :=
  { cxOf CX P w K mg base N qual scope f cd A outer s H E with calm := false }
section
variable {CX : CXT} {P : Program} {w : World} {K : PySem.W.Frag} {mg : Str → Option Value} {base : Heap} {N ps : List Str} {qual : Str} {scope : Scope} {f : Addr} {cd : Value} {A : Around} {outer : List Env} {s s1 : Shared} {H : Hp} {E : XK} {us : List Value} {vs : List V}
theorem inv_startW (S : FnScope N ps scope) (e0 : Env0 P w K mg base A outer s H) (hl : vs.length = ps.length) (r : Vals vs us)
    (x : InCallC s s.heap.objs.size (bindL (envOfC qual scope s.heap.objs.size f cd).kindOf (ps.zip us) fun _ => none) (cellsFrom (s.heap.objs.size + 1) scope.names []) (bindC (envOfC qual scope s.heap.objs.size f cd).kindOf (ps.zip us) fun _ => none) s1) :
    Inv (cxW CX P w K mg base N qual scope f cd A outer s H E) [] (L2.start N vs) H s1 := by
  have hpl : ps.length ≤ N.length := by have := congrArg List.length S.pre; rw [List.length_take] at this; omega
  obtain ⟨h1, tk, rfl, hk⟩ := x.done
  have noA : ∀ b : Addr, b ∉ (cxW CX P w K mg base N qual scope f cd A outer s H E).ex := fun b z => absurd (show b ∈ ([] : List Addr) from z) (by simp)
  refine ⟨⟨e0.mod, S.kind, rfl, rfl, Nat.le_refl _, fun y z c h1 h2 => ?_, fun y hy => ?_, fun y c _ h => ?_, (fun z => Bool.noConfusion (show false = true from z)), Around.frames_deeper e0.frames, .inr ⟨rfl, rfl⟩, fun b z => absurd z (noA b), e0.bs, e0.bsz, fun b _ _ => noA b, fun b z => absurd z (noA b), e0.funs, e0.frf⟩,
    rfl, e0.bare, Un.kept hk, ⟨_, x.toInCall.ns, fun i y v h1 h2 h3 => ?_⟩, fun y c h => ⟨_, x.cell y c h⟩, e0.hok.fresh (Nat.le_refl _), fun y c h => ?_, fun q hq => absurd (show q ∈ ([] : List (Addr × Obj)) from hq) (by simp), e0.hok.kept hk, ?_⟩
  · exact name_of_addr x.apart (PySem.mem_of_lookup h1) (PySem.mem_of_lookup h2)
  · have hy : scope.names.lookup y = some .cell ∨ scope.names.lookup y = some .free := hy
    rcases hy with hy | hy
    · exact cell_has hy
    · exact absurd rfl (S.nofree _ (PySem.mem_of_lookup hy))
  · exact Nat.le_of_lt (x.above y c (PySem.mem_of_lookup h))
  · have hi : i < vs.length := by
      unfold L2.start at h2
      by_cases hi : i < vs.length
      · exact hi
      · rw [List.getElem?_append_right (by simpa using hi)] at h2
        rw [List.getElem?_replicate] at h2
        split at h2 <;> cases h2
    have ha : vs[i]? = some v := by
      unfold L2.start at h2
      rw [List.getElem?_append_left (by simpa using hi), List.getElem?_map] at h2
      cases e : vs[i]? with
      | none => rw [e] at h2; cases h2
      | some a => rw [e] at h2; cases h2; rfl
    obtain ⟨u, hu, rv⟩ := r.get ha
    have hp : ps[i]? = some y := by
      rw [← S.pre, List.getElem?_take_of_lt (by omega)]; exact h1
    have ndP : ps.Nodup := by rw [← S.pre]; exact S.nd.sublist (List.take_sublist _ _)
    refine ⟨u, rv, ?_⟩
    rcases S.par y (List.mem_of_getElem? hp) with k | k
    · exact .inl ⟨k, bindL_get ndP hp hu k⟩
    · obtain ⟨c, e⟩ := cell_has (n := s.heap.objs.size + 1) k
      refine .inr ⟨.inl k, c, e, ?_⟩
      have q := x.cell y c e
      rw [bindC_get ndP hp hu (by show scope.names.lookup y ≠ _; rw [k]; decide)] at q
      exact q
  · exact e0.hok.fresh (Nat.le_of_lt (x.above y c (PySem.mem_of_lookup h)))
  · unfold L2.start
    show _ = N.length
    rw [List.length_append, List.length_map, List.length_replicate]
    omega
theorem fn_ofW {k : Nat} {name : Str} {params : Arguments} {body : List Stmt} {dV kV doc pm cdv ct oc : Value} {an od : Option Addr}
    {osl : Array (Option Value)} {sp : Sp} (lk : K.lookup f = some ⟨oc, od, .func (PySem.W.fnOf name qual params body scope dV kV doc pm an cdv ct), osl⟩) (hcd : PySem.W.codeIn K cdv qual = true) (S : FnScope N ps scope)
    (len : ∀ vs H Q E, sp vs H Q E → vs.length = ps.length)
    (hbody : ∀ (A : Around) (outer : List Env) (s : Shared) (H : Hp) (vs : List V) (Q : VK) (E : XK), L2H.RoomH k (A.deeper (envOfC qual scope s.heap.objs.size f cdv)) → sp vs H Q E →
      ∃ t, PSs (cxW CX P w K mg base N qual scope f cdv A outer s H E) body t ∧ t { nx := fun _ H' => Q .non H', rt := Q } (L2.start N vs) H) :
    FnW P w K mg base CX (k + 1) f (PySem.W.fnOf name qual params body scope dV kV doc pm an cdv ct) ps sp := by
  refine ⟨len, fun A outer s H args us vs Q E hr e0 hb r hsp => ?_⟩
  have hl := len _ _ _ _ hsp
  have KX : K.In s.heap := e0.mod.kin.keeps fun b o e => (e0.bs b o e).1
  have lim : s.heap.NoLimit := e0.mod.nolimit.keeps fun b o e => (e0.bs b o e).1
  have hkind : ∀ y ∈ ps.zip us, scope.names.lookup y.1 = some .local ∨ (scope.names.lookup y.1 = some .cell ∧ ((cellsFrom (s.heap.objs.size + 1) scope.names []).lookup y.1).isSome = true) := fun ⟨n, v⟩ hy => by
    rcases S.par n (List.of_mem_zip hy).1 with q | q
    · exact .inl q
    · exact .inr ⟨q, PySem.W.cellsFrom_some _ _ _ (.inl q)⟩
  refine codeAny_call_function hr.depth (KX _ _ lk) rfl S.co S.gen rfl (PySem.W.codeRec_of KX hcd) (hb _ _ _ _ ?_)
  refine wpAny_newFunctionEnv_cells S.kind hkind fun env he s1 x => ?_
  subst he
  refine ⟨lim.keeps x.toInCall.keep, codeAny_func ?_⟩
  obtain ⟨t, ht, hq⟩ := hbody A outer s H vs Q E (hr.deeper _) hsp
  have I : Inv (cxW CX P w K mg base N qual scope f cdv A outer s H E) [] (L2.start N vs) H s1 := inv_startW S e0 hl r x
  refine wpAny_mono (ht.run [] s1 (L2.start N vs) H _ I hq) (fun fl s' hs => ?_) fun e s' hs => hs
  have fin : ∀ {σ' : L2.St} {H' : Hp} {v : V} {u : Value}, Inv (cxW CX P w K mg base N qual scope f cdv A outer s H E) [] σ' H' s' → RelV v u → Q v H' → CE outer P w H s Q u s' :=
    fun {σ' H' v u} J rv q => ⟨v, H', J.os, J.bare, J.base, J.hok, rv, q⟩
  cases fl with
  | ret u =>
    obtain ⟨v, σ', H', J, rv, q⟩ := hs
    exact fin J rv q
  | next =>
    obtain ⟨σ', H', J, q⟩ := hs
    exact fin (v := V.non) (u := Value.none) J rfl q
  | brk =>
    obtain ⟨_, _, _, q⟩ := hs
    exact False.elim q
  | cont =>
    obtain ⟨_, _, _, q⟩ := hs
    exact False.elim q
end
section
variable {X : Cx} {CX : CXT} {k : Nat} {f : Addr} {fd : FuncData} {ps : List Str} {sp : Sp} {E : XK} {x : Str} {q pos : Pos} {e : Expr} {es : List Expr} {t : TA}
theorem pe_callW (F : FnW X.prog X.w X.K X.mg X.base CX k f fd ps sp) (hr : L2H.RoomH k X.A) (hm : X.mg x = some (.ref f)) (hk : PySem.W.keepIn X.K (.ref f) = true) (hb : Binds X.K fd ps []) (hx : Passes CX X E)
    (ha : PA X (e :: es) t) (hg : Gl X x := by rfl) (hdb : (x == ("__debug__" : Str)) = false := by decide) (he : starEach (e :: es) X.env = (false, eval e X.env) :: starEach es X.env := by rfl) (hpl : (backTo pos (starEach es X.env)).any (·.1) = false := by rfl) :
    PE X (.Call (.Name x q) (e :: es) [] pos) (tCall sp [] E t) := by
  refine ⟨fun pins s σ H Q I h => ?_⟩
  refine wpAny_Call_Name_kw (ld_glob I hg hm ?_ hdb)
  refine PySem.W.callWith_K (h₀ := X.base) I.ok.mod.kin hk (thn (ha.run pos pins s σ H _ I h) fun us s1 ⟨vs, H1, I1, r, q⟩ => ⟨I1.kIn, ?_⟩) he hpl
  have q' : sp vs H1 Q E := by
    have z : sp (vs ++ []) H1 Q E := q
    rw [List.append_nil] at z
    exact z
  have hl : us.length = ps.length := by rw [← r.length]; exact F.len _ _ _ _ q'
  have b := hb s1 us I1.kIn (by rw [List.append_nil]; exact hl)
  rw [List.append_nil] at b
  refine wpAny_call (codeAny_mono (F.run X.A X.stack s1 H1 ⟨us, []⟩ us vs Q E hr I1.env0 b r q') fun r s' hq => ?_)
  cases r with
  | error e => exact hx pins σ H1 s1 e s' I1 hq
  | ok fl =>
    cases fl with
    | ret u => exact I1.after hq
    | next => exact False.elim hq
    | brk => exact False.elim hq
    | cont => exact False.elim hq
end
end HX
/-! operators, abs, bool, str, ==, != of an own class; its static methods -/
namespace PySem.W
open PySem PySem.Spec PySem.Calls PyProof.Rows Builtin
section
variable {prog : Program} {w : World} {A : Around} {E : Value → Shared → Prop} {s : Shared} {K : Frag} {x C f : Addr} {ox : Obj} {od : Option Obj}
theorem hx_abs {Q : Value → Shared → Prop} (X : K.In s.heap) (I : InstAt s.heap x ox C od) (hs : findIn K (.ref C) "__abs__" = some (some (.ref f))) (hf : isFn K (.ref f) = true)
    (h : wpAny (model prog w) A.in1 (call (.ref f) [.ref x]) Q E s) : wpAny (model prog w) A (call (.builtin "abs") [.ref x]) Q E s := by
  refine Calls.call_function_entry PyProof.Rows.kind_abs PyProof.Rows.plain_abs PyProof.Rows.entry_abs (PyProof.Rows.args_abs _) ?_
  unfold Builtin.«abs»
  refine wpAny_bind (m := oneArg "abs" _) (wpAny_pure ?_)
  refine wpAny_bind (m := callSpecial? (.ref x) (Str.ofString "__abs__")) (special_fn X I hs (beq_iff_eq.mp hf) (wpAny_mono h (fun r s' hr => ?_) fun _ _ y => y))
  exact wpAny_pure ⟨_, rfl, hr⟩
theorem hx_truthy {Q : Bool → Shared → Prop} (X : K.In s.heap) (I : InstAt s.heap x ox C od) (hs : findIn K (.ref C) "__bool__" = some (some (.ref f))) (hf : isFn K (.ref f) = true)
    (h : wpAny (model prog w) A (call (.ref f) [.ref x]) (BoolBack Q) E s) : wpAny (model prog w) A (truthy (.ref x)) Q E s := by
  unfold truthy
  refine wpAny_bind (m := callSpecial? (.ref x) (Str.ofString "__bool__")) (special_fn X I hs (beq_iff_eq.mp hf) (wpAny_mono h (fun r s' hr => ?_) fun _ _ y => y))
  cases r <;> first | exact hr.elim | skip
  exact wpAny_pure hr
theorem hx_bool {Q : Value → Shared → Prop} (X : K.In s.heap) (I : InstAt s.heap x ox C od) (hs : findIn K (.ref C) "__bool__" = some (some (.ref f))) (hf : isFn K (.ref f) = true)
    (h : wpAny (model prog w) A.in1.in1 (call (.ref f) [.ref x]) (BoolBack (fun b s' => Q (.bool b) s')) E s) : wpAny (model prog w) A (call (.type "bool") [.ref x]) Q E s := by
  refine callType_codes (T := "bool") (Bi := Builtin.«object.__init__») (Q₁ := fun r s₁ => ∃ b, r = .bool b ∧ Q r s₁) PySem.F.called_bool (PySem.F.typeCall_bool_1 _) PySem.F.entry_object_init ?_ ?_
  · refine codeAny_of_tree ?_
    show wpAny _ A.in1.in1 (do checkBuiltinCall "bool.__new__" ⟨[.type "bool", .ref x], []⟩; again (.builtin "bool.__new__" ⟨[.type "bool", .ref x], []⟩)) _ _ s
    refine wpAny_bind (wpAny_of_eq (PySem.F.newCall_bool_1 _) (wpAny_pure ⟨plainId_quiet (by decide +kernel) _, codeAny_builtin PySem.F.entry_bool_new ?_⟩))
    rw [Around.under_plainId (by decide +kernel) _]
    have f1 := PySem.F.conv_sub_bool
    have hT := hx_truthy (Q := fun b s' => Q (.bool b) s') X I hs hf h
    obtain ⟨hp, g, d, tk, os⟩ := s
    repeat (any_goals (first | (refine wpAny_mono hT (fun b s' hb => ?_) fun _ _ y => y) | wp_step))
    all_goals first | exact ⟨_, rfl, hb⟩ | exact ⟨_, rfl, _, rfl, hb⟩ | skip
  · rintro obj s₁ ⟨b, rfl, hq⟩
    exact ⟨rfl, PySem.F.args_object_init_2 _ _, object_init_meets PySem.F.called_bool.init.lookup PySem.F.called_bool.made (by decide) prog w A.in1 _ s₁ ⟨rfl, rfl, hq⟩⟩
theorem hx_slot_ne : Slot "object" "__ne__" "object.__ne__" := .of (owner := "object") (n := "__ne__") (by rw [typeLookup_type, builtinLookup_eq_fast]; kernel_rfl) (by decide +kernel) (by decide +kernel) (by decide +kernel)
    (by first | exact .inl (by decide +kernel) | exact .inr (by decide +kernel)) (by rw [isSubtype_type]; kernel_rfl)
theorem hx_ne {b : Value} {tb : Value} {Q : Value → Shared → Prop} (hu : A.units + 1 < cLine) (X : K.In s.heap) (I : InstAt s.heap x ox C od) (hb : Looks (model prog w) s.heap (typeOf b) tb) (hn : notFirst K C tb = true)
    (hne : findIn K (.ref C) "__ne__" = some (some (.builtin "object.__ne__"))) (hob : mroIn K C (.type "object") = some true)
    (hs : findIn K (.ref C) "__eq__" = some (some (.ref f))) (hf : isFn K (.ref f) = true)
    (h : wpAny (model prog w) A.in1 (call (.ref f) [.ref x, b]) (BoolBack (fun c s' => Q (.bool (!c)) s')) E s) : wpAny (model prog w) A (richCompare .NotEq (.ref x) b) Q E s := by
  have two : wpAny (model prog w) A (call (.builtin "object.__ne__") [.ref x, b]) (fun v s' => ∃ c, v = .bool c ∧ Q (.bool c) s') E s := by
    refine wpAny_call (codeAny_call_builtin hx_slot_ne.plain PySem.F.cmpEntry_ne ?_)
    refine @check_slot (model prog w) _ _ s "object.__ne__" "object" "__ne__" (.ref x) [b] [] _ PySem.F.cmpKind_ne PySem.F.cmpSplit_ne (I.type.andThen (looks_mroIn X hob)) (PySem.F.cmpArgs_ne _ _) ?_
    unfold Builtin.«object.__ne__»
    refine wpAny_bind (m := slotArgs "__ne__" 1 _) (wpAny_pure ?_)
    refine wpAny_bind (wpAny_cRoomFor (A := A.in1) (by show A.units + 1 < cLine; exact hu) ?_)
    refine wpAny_bind (ifBound_K X I hs hf (wpAny_mono h (fun r s' hr => ?_) fun _ _ y => y))
    cases r <;> first | exact hr.elim | skip
    rename_i c
    refine wpAny_bind ?_
    exact wpAny_truthy_bool (wpAny_pure ⟨_, rfl, hr⟩)
  have one : wpAny (model prog w) A (tryCompare (.ref x) "__ne__" b) (fun r s' => ∃ v, r = some v ∧ Q v s') E s := by
    unfold tryCompare
    refine wpAny_bind (m := callSpecialIfBound? (.ref x) "__ne__" [b]) ?_
    simp only [callSpecialIfBound?, bindSpecialIfBound?]
    refine wpAny_holding (wpAny_bind (wpAny_bind (wpAny_bind (I.type.here ((looks_findIn X hne).here ?_)))))
    refine wpAny_bind (wpAny_askSetting (wpAny_ite ?_))
    have fin : wpAny (model prog w) A (call (.builtin "object.__ne__") ([.ref x] ++ [b]) >>= fun v => pure (some v)) (fun a s' => wpAny (model prog w) A (match a with | some .notImplemented | none => pure none | some v => pure (some v)) (fun r s' => ∃ v, r = some v ∧ Q v s') E s') E s :=
      wpAny_bind (wpAny_mono two (fun v s' ⟨c, e, q⟩ => wpAny_pure (by subst e; exact wpAny_pure ⟨_, rfl, q⟩)) fun _ _ y => y)
    split
    · exact wpAny_bind (wpAny_of_eq (hx_slot_ne.bind _) (wpAny_pure (by exact fin)))
    · exact wpAny_tryCatch (wpAny_bind (wpAny_of_eq (hx_slot_ne.bind _) (wpAny_pure (by exact fin))))
  unfold richCompare
  simp only [oneThing_ref]
  refine wpAny_holding (wpAny_bind (wpAny_cRoomFor (by omega) ?_))
  refine wpAny_bind (I.type.here (wpAny_bind (hb.here ?_)))
  split
  · rename_i q
    have e : subIn K tb (.ref C) = some false := by
      rcases Bool.or_eq_true_iff.mp hn with e | e
      · rw [beq_iff_eq.mp e] at q; simp at q
      · exact beq_iff_eq.mp e
    refine wpAny_bind ((looks_subIn X e).here ?_)
    simp only [Bool.false_eq_true, if_false]
    refine wpAny_bind (wpAny_mono one (fun r s' z => ?_) fun _ _ e => e)
    obtain ⟨v, rfl, hq⟩ := z
    exact wpAny_pure hq
  · refine wpAny_bind (wpAny_pure ?_)
    simp only [Bool.false_eq_true, if_false]
    refine wpAny_bind (wpAny_mono one (fun r s' z => ?_) fun _ _ e => e)
    obtain ⟨v, rfl, hq⟩ := z
    exact wpAny_pure hq
end
end PySem.W
/-! the same as rules of the layer -/
namespace HX
open PySem PySem.Spec PyProof.Rows L2
/-- what the written part says of a class for its operators -/
structure OwnC (K : PySem.W.Frag) (C : Addr) : Prop where
  sf : PySem.W.selfFirst K C = true
  ti : PySem.W.subIn K (.type "int") (.ref C) = some false
  ts : PySem.W.subIn K (.type "str") (.ref C) = some false
  ne : PySem.W.findIn K (.ref C) "__ne__" = some (some (.builtin "object.__ne__"))
  ob : PySem.W.mroIn K C (.type "object") = some true
section
variable {X : Cx} {CX : CXT} {pins : List (Addr × Obj)} {σ : L2.St} {H : Hp} {s : Shared} {C g : Addr} {k : Nat} {fd : FuncData} {ps : List Str} {sp : Sp} {E : XK}
theorem inst_of (I : Inv X pins σ H s) {p dx : Addr} {fs : List (Str × V)} (h : H p = some (.ins C dx fs)) : ∃ od, PySem.W.InstAt s.heap p (PySem.W.instObj C dx) C (some od) := by
  obtain ⟨mA, O, _⟩ := ins_get I.hok h
  obtain ⟨od, J, _⟩ := O.look
  exact ⟨od, J⟩
/-- a call below the running body -/
theorem run_below {A : Around} {Q : VK} {us : List Value} {vs : List V} (F : FnOk X.prog X.w X.K X.mg X.base CX k g fd ps sp) (hr : Room k A) (e0 : Env0 X.prog X.w X.K X.mg X.base A X.stack s H) (hb : Binds X.K fd ps []) (hx : Passes CX X E) (I : Inv X pins σ H s) (r : Vals vs us) (h : sp vs H Q E) :
    wpAny (model X.prog X.w) A (call (.ref g) us) (EP X pins σ Q) X.xe s := by
  have hl : us.length = ps.length := by rw [← r.length]; exact F.len _ _ _ _ h
  have b := hb s us I.kIn (by rw [List.append_nil]; exact hl)
  rw [List.append_nil] at b
  refine wpAny_call (codeAny_mono (F.run A X.stack s H ⟨us, []⟩ us vs Q E hr e0 b r h) fun r s' hq => ?_)
  cases r with
  | error e => exact hx pins σ H s e s' I hq
  | ok fl =>
    cases fl with
    | ret u => exact I.after hq
    | next => exact False.elim hq
    | brk => exact False.elim hq
    | cont => exact False.elim hq
/-- the second operand: an int, or an instance of the same class -/
def Opnd (C : Addr) (y : V) (H : Hp) : Prop := (∃ i, y = .int i) ∨ ∃ q dy gs, y = .ref q ∧ H q = some (.ins C dy gs)
/-- x op y, x an instance -/
def rOwnB (C : Addr) (sp : Sp) (E : XK) : R2 := fun x y H Q => ∃ p dx fs, x = .ref p ∧ H p = some (.ins C dx fs) ∧ Opnd C y H ∧ sp [x, y] H Q E
theorem op_ownB {op : Operator} (T : OwnC X.K C) (hs : PySem.W.findIn X.K (.ref C) (PySem.dunder op.info.2) = some (some (.ref g))) (hf : PySem.W.isFn X.K (.ref g) = true) (hR : PySem.W.findIn X.K (.ref C) (PySem.dunderR op.info.2) = some none)
    (h1 : (PySem.W.findIn X.K (.type "int") (PySem.dunder op.info.2)).isSome = true) (h2 : (PySem.W.findIn X.K (.type "int") (PySem.dunderR op.info.2)).isSome = true)
    (F : FnOk X.prog X.w X.K X.mg X.base CX k g fd ps sp) (hr : Room k X.A) (hb : Binds X.K fd ps []) (hx : Passes CX X E) : OpR X (binaryOp op) (rOwnB C sp E) := by
  intro pins s σ H x y v u Q I rx ry h
  obtain ⟨p, dx, fs, rfl, hp, hy, q⟩ := h
  cases (show v = Value.ref p from rx)
  obtain ⟨od, J⟩ := inst_of I hp
  obtain ⟨m, hF⟩ := I.fr
  rcases hy with ⟨i, rfl⟩ | ⟨q', dy, gs, rfl, hq'⟩
  · obtain ⟨t, rfl⟩ := ry
    obtain ⟨fo, e1⟩ := Option.isSome_iff_exists.mp h1
    obtain ⟨ro, e2⟩ := Option.isSome_iff_exists.mp h2
    refine PySem.W.ksp_binT hF I.ok.mod.kin J (T := "int") rfl T.sf hs hf hR (.inl rfl) e1 e2 T.ti ?_
    refine wpAny_mono (run_below F hr I.env0 hb hx I (us := [.ref p, .int i t]) (vs := [.ref p, .int i]) (.cons rfl (.cons ⟨_, rfl⟩ .nil)) q) (fun w' s' z => ?_) fun _ _ x => x
    obtain ⟨z', H', I', rz, qz⟩ := z
    exact SlX.cmpback rz ⟨z', H', I', rz, qz⟩
  · cases (show u = Value.ref q' from ry)
    obtain ⟨od', J'⟩ := inst_of I hq'
    refine PySem.W.binop_K hF I.ok.mod.kin J J'.type T.sf hs hf ?_
    refine wpAny_mono (run_below F hr I.env0 hb hx I (us := [.ref p, .ref q']) (vs := [.ref p, .ref q']) (.cons rfl (.cons rfl .nil)) q) (fun w' s' z => ?_) fun _ _ x => x
    obtain ⟨z', H', I', rz, qz⟩ := z
    exact SlX.cmpback rz ⟨z', H', I', rz, qz⟩
/-- f(x), x an instance: -x, abs(x), bool(x), str(x) -/
def rOwnU (C : Addr) (sp : Sp) (E : XK) : V → Hp → VK → Prop := fun x H Q => ∃ p dx fs, x = .ref p ∧ H p = some (.ins C dx fs) ∧ sp [x] H Q E
theorem un_ownN (hs : PySem.W.findIn X.K (.ref C) "__neg__" = some (some (.ref g))) (hf : PySem.W.isFn X.K (.ref g) = true) (F : FnOk X.prog X.w X.K X.mg X.base CX k g fd ps sp) (hr : Room k X.A) (hb : Binds X.K fd ps []) (hx : Passes CX X E) : UnR X (unaryOp .USub) (rOwnU C sp E) := by
  intro pins s σ H x v Q I rx h
  obtain ⟨p, dx, fs, rfl, hp, q⟩ := h
  cases (show v = Value.ref p from rx)
  obtain ⟨od, J⟩ := inst_of I hp
  obtain ⟨m, hF⟩ := I.fr
  exact PySem.W.ksp_neg hF I.ok.mod.kin J hs hf (run_below F hr I.env0 hb hx I (us := [.ref p]) (vs := [.ref p]) (.cons rfl .nil) q)
def rOwn1 (C : Addr) (sp : Sp) (E : XK) : List V → Hp → VK → Prop := fun xs H Q => ∃ p dx fs, xs = [.ref p] ∧ H p = some (.ins C dx fs) ∧ sp [.ref p] H Q E
theorem call_ownAbs (hs : PySem.W.findIn X.K (.ref C) "__abs__" = some (some (.ref g))) (hf : PySem.W.isFn X.K (.ref g) = true) (F : FnOk X.prog X.w X.K X.mg X.base CX k g fd ps sp) (hr : Room (k + 1) X.A) (hb : Binds X.K fd ps []) (hx : Passes CX X E) : CallR X (.builtin "abs") (rOwn1 C sp E) := by
  intro pins s σ H xs us Q I r h
  obtain ⟨p, dx, fs, rfl, hp, q⟩ := h
  obtain ⟨u, rfl, ru⟩ := vals1 r
  cases (show u = Value.ref p from ru)
  obtain ⟨od, J⟩ := inst_of I hp
  exact PySem.W.hx_abs I.kIn J hs hf (run_below F hr.in1 I.env0.in1 hb hx I (us := [.ref p]) (vs := [.ref p]) (.cons rfl .nil) q)
def rOwn1B (C : Addr) (sp : Sp) (E : XK) : List V → Hp → VK → Prop := fun xs H Q => ∃ p dx fs, xs = [.ref p] ∧ H p = some (.ins C dx fs) ∧ sp [.ref p] H (fun v H' => ∃ b, v = .bl b ∧ Q (.bl b) H') E
theorem call_ownBool (hs : PySem.W.findIn X.K (.ref C) "__bool__" = some (some (.ref g))) (hf : PySem.W.isFn X.K (.ref g) = true) (F : FnOk X.prog X.w X.K X.mg X.base CX k g fd ps sp) (hr : Room (k + 2) X.A) (hb : Binds X.K fd ps []) (hx : Passes CX X E) : CallR X (.type "bool") (rOwn1B C sp E) := by
  intro pins s σ H xs us Q I r h
  obtain ⟨p, dx, fs, rfl, hp, q⟩ := h
  obtain ⟨u, rfl, ru⟩ := vals1 r
  cases (show u = Value.ref p from ru)
  obtain ⟨od, J⟩ := inst_of I hp
  have hr2 : Room k X.A.in1.in1 := (show Room (k + 1) X.A.in1 from Room.in1 hr).in1
  refine PySem.W.hx_bool I.kIn J hs hf (wpAny_mono (run_below F hr2 I.env0.in1.in1 hb hx I (us := [.ref p]) (vs := [.ref p]) (.cons rfl .nil) q) (fun w' s' z => ?_) fun _ _ x => x)
  obtain ⟨z', H', I', rz, b, rfl, qz⟩ := z
  cases (show w' = Value.bool b from rz)
  exact ⟨.bl b, H', I', rfl, qz⟩
def rOwn1S (C : Addr) (sp : Sp) (E : XK) : List V → Hp → VK → Prop := fun xs H Q => ∃ p dx fs, xs = [.ref p] ∧ H p = some (.ins C dx fs) ∧ sp [.ref p] H (fun v H' => ∃ b, v = .str b ∧ Q (.str b) H') E
theorem call_ownStr (hs : PySem.W.findIn X.K (.ref C) "__str__" = some (some (.ref g))) (hf : PySem.W.isFn X.K (.ref g) = true) (F : FnOk X.prog X.w X.K X.mg X.base CX k g fd ps sp) (hr : Room (k + 2) X.A) (hb : Binds X.K fd ps []) (hx : Passes CX X E) : CallR X (.type "str") (rOwn1S C sp E) := by
  intro pins s σ H xs us Q I r h
  obtain ⟨p, dx, fs, rfl, hp, q⟩ := h
  obtain ⟨u, rfl, ru⟩ := vals1 r
  cases (show u = Value.ref p from ru)
  obtain ⟨od, J⟩ := inst_of I hp
  have hr2 : Room k X.A.in1.in1 := (show Room (k + 1) X.A.in1 from Room.in1 hr).in1
  refine PySem.W.kso_call hr2.units0 I.kIn J hs hf (wpAny_mono (run_below F hr2 I.env0.in1.in1 hb hx I (us := [.ref p]) (vs := [.ref p]) (.cons rfl .nil) q) (fun w' s' z => ?_) fun _ _ x => x)
  obtain ⟨z', H', I', rz, b, rfl, qz⟩ := z
  obtain ⟨t, e⟩ := (show ∃ t, w' = Value.str b t from rz)
  cases e
  exact ⟨.str b, H', I', ⟨_, rfl⟩, qz⟩
/-- the second operand of ==: also a text -/
def OpndE (C : Addr) (y : V) (H : Hp) : Prop := (∃ i, y = .int i) ∨ (∃ z, y = .str z) ∨ ∃ q dy gs, y = .ref q ∧ H q = some (.ins C dy gs)
theorem opndE_ty (T : OwnC X.K C) (I : Inv X pins σ H s) {y : V} {u : Value} (ry : RelV y u) (hy : OpndE C y H) : ∃ tb, PySem.W.Looks (model X.prog X.w) s.heap (typeOf u) tb ∧ PySem.W.notFirst X.K C tb = true := by
  rcases hy with ⟨i, rfl⟩ | ⟨z, rfl⟩ | ⟨q', dy, gs, rfl, hq'⟩
  · obtain ⟨t, rfl⟩ := ry
    exact ⟨.type "int", PySem.W.Looks.of_pure rfl, by unfold PySem.W.notFirst; rw [T.ti]; simp⟩
  · obtain ⟨t, rfl⟩ := ry
    exact ⟨.type "str", PySem.W.Looks.of_pure rfl, by unfold PySem.W.notFirst; rw [T.ts]; simp⟩
  · cases (show u = Value.ref q' from ry)
    obtain ⟨od', J'⟩ := inst_of I hq'
    exact ⟨.ref C, J'.type, by unfold PySem.W.notFirst; simp⟩
def rOwnE (C : Addr) (sp : Sp) (E : XK) : R2 := fun x y H Q => ∃ p dx fs, x = .ref p ∧ H p = some (.ins C dx fs) ∧ OpndE C y H ∧ sp [x, y] H Q E
theorem op_ownEq (T : OwnC X.K C) (hs : PySem.W.findIn X.K (.ref C) "__eq__" = some (some (.ref g))) (hf : PySem.W.isFn X.K (.ref g) = true) (F : FnOk X.prog X.w X.K X.mg X.base CX k g fd ps sp) (hr : Room k X.A) (hb : Binds X.K fd ps []) (hx : Passes CX X E) : OpR X (compareOp .Eq) (rOwnE C sp E) := by
  intro pins s σ H x y v u Q I rx ry h
  obtain ⟨p, dx, fs, rfl, hp, hy, q⟩ := h
  cases (show v = Value.ref p from rx)
  obtain ⟨od, J⟩ := inst_of I hp
  obtain ⟨m, hF⟩ := I.fr
  obtain ⟨tb, hb', hn⟩ := opndE_ty T I ry hy
  show wpAny _ _ (richCompare .Eq _ _) _ _ _
  refine PySem.W.cmp_K (op := .Eq) hr.units0 hF I.ok.mod.kin J hb' hn hs hf ?_
  refine wpAny_mono (run_below F hr I.env0 hb hx I (us := [.ref p, u]) (vs := [.ref p, y]) (.cons rfl (.cons ry .nil)) q) (fun w' s' z => ?_) fun _ _ x => x
  obtain ⟨z', H', I', rz, qz⟩ := z
  exact SlX.cmpback rz ⟨z', H', I', rz, qz⟩
def rOwnNe (C : Addr) (sp : Sp) (E : XK) : R2 := fun x y H Q => ∃ p dx fs, x = .ref p ∧ H p = some (.ins C dx fs) ∧ OpndE C y H ∧ sp [x, y] H (fun v H' => ∃ b, v = .bl b ∧ Q (.bl (!b)) H') E
theorem op_ownNe (T : OwnC X.K C) (hs : PySem.W.findIn X.K (.ref C) "__eq__" = some (some (.ref g))) (hf : PySem.W.isFn X.K (.ref g) = true) (F : FnOk X.prog X.w X.K X.mg X.base CX k g fd ps sp) (hr : Room (k + 1) X.A) (hb : Binds X.K fd ps []) (hx : Passes CX X E) : OpR X (compareOp .NotEq) (rOwnNe C sp E) := by
  intro pins s σ H x y v u Q I rx ry h
  obtain ⟨p, dx, fs, rfl, hp, hy, q⟩ := h
  cases (show v = Value.ref p from rx)
  obtain ⟨od, J⟩ := inst_of I hp
  obtain ⟨tb, hb', hn⟩ := opndE_ty T I ry hy
  show wpAny _ _ (richCompare .NotEq _ _) _ _ _
  refine PySem.W.hx_ne (by have := hr.units0; have := hr.un; omega) I.kIn J hb' hn T.ne T.ob hs hf ?_
  refine wpAny_mono (run_below F hr.in1 I.env0.in1 hb hx I (us := [.ref p, u]) (vs := [.ref p, y]) (.cons rfl (.cons ry .nil)) q) (fun w' s' z => ?_) fun _ _ x => x
  obtain ⟨z', H', I', rz, b, rfl, qz⟩ := z
  cases (show w' = Value.bool b from rz)
  exact ⟨.bl (!b), H', I', rfl, qz⟩
/-! ### a static method by its class's name -/
structure Stat (K : PySem.W.Frag) (C : Addr) (m : Str) (g : Addr) : Prop where
  rd : PySem.W.readsIn K C (.type "type") = true
  ga : PySem.W.specialIn K (.ref C) "__getattribute__" = some (some (.builtin "type.__getattribute__"))
  at_ : ∃ p, PySem.W.findCls K (.ref C) (.type "type") m = some (.get (.builtin "staticmethod.__get__") (.ref p) .none (.ref C)) ∧ ∃ rest, PySem.W.recIn K p "staticmethod" = some (.ref g :: rest)
  kp : PySem.W.keepIn K (.ref g) = true
theorem getstat {m : Str} {pl : Sem Bool} {Q : Value × List Value → Shared → Prop} {A : Around} {E' : Value → Shared → Prop} (I : Inv X pins σ H s) (T : Stat X.K C m g) (h : ∀ s', Inv X pins σ H s' → Q (.ref g, []) s') : wpAny (model X.prog X.w) A (getMethod (.ref C) m pl) Q E' s := by
  obtain ⟨p, e, rest, hp⟩ := T.at_
  refine PySem.W.method_cls I.kIn T.ga ?_
  refine PySem.W.cls_bind I.kIn T.rd e ?_
  exact wpAny_call (PySem.W.sm_get (s := { s with toks := s.toks + 1 }) I.kIn hp (PySem.W.handed_on rfl (h _ (I.tok _))))
variable {x m : Str} {q pos apos : Pos} {e : Expr} {es : List Expr} {t : TA}
theorem pe_stat {pl : Sem Bool} (T : Stat X.K C m g) (hm : X.mg x = some (.ref C)) (F : FnOk X.prog X.w X.K X.mg X.base CX k g fd ps sp) (hr : Room k X.A) (hb : Binds X.K fd ps []) (hx : Passes CX X E) (ha : PA X (e :: es) t) (hg : Gl X x := by rfl) (hdb : (x == ("__debug__" : Str)) = false := by decide)
    (hst : starEach (e :: es) X.env = (false, eval e X.env) :: starEach es X.env := by rfl) (hpl : (backTo pos (starEach es X.env)).any (·.1) = false := by rfl)
    (ht : eval (.Call (.Attribute (.Name x q) m apos) (e :: es) [] pos) X.env = (do
      let ov ← eval (.Name x q) X.env
      standAt apos.atName
      let (f, first) ← holding [ov] (getMethod ov m pl)
      callWith pos f first (backTo pos (starEach (e :: es) X.env)) (backToKw pos (keywordEach [] X.env))) := by rfl) :
    PE X (.Call (.Attribute (.Name x q) m apos) (e :: es) [] pos) (tCall sp [] E t) := by
  refine ⟨fun pins s σ H Q I h => ?_⟩
  refine PySem.W.methodCall_KW (pl := pl) (ld_glob I hg hm ?_ hdb) ht
  refine getstat I T fun s1 I1 => ?_
  refine PySem.W.callWith_K (h₀ := X.base) (first := []) I1.ok.mod.kin T.kp (thn (ha.run pos pins s1 σ H _ I1 h) fun us s2 ⟨vs, H1, I2, r, q⟩ => ⟨I2.kIn, ?_⟩) hst hpl
  have q' : sp vs H1 Q E := by
    have z : sp (vs ++ []) H1 Q E := q
    rw [List.append_nil] at z
    exact z
  exact run_below F hr I2.env0 hb hx I2 r q'
end
end HX
/-! the head of law_k00_fracs: what stands behind the top, told by names -/
namespace K0
open PySem PySem.Spec PyProof.Rows L2 He HX
abbrev R : PySem.W.OpenRow := PySem.W.OpenLaw.row PySem.Challenge.rw_leastrows_k00_fracs
abbrev PR : Program := (PySem.Challenge.rw_leastrows_k00_fracs).prog
abbrev qv : Program := PySem.W.view R.prog [77]
def top (i : Nat) : Stmt := PySem.Challenge.pw_leastrows_k00_fracs.main.body.getD i (.Pass ⟨0, 0, 0, 0⟩)
/-- the function under a static method -/
def sa (K : PySem.W.Frag) (C : Addr) (m : Str) : Addr := match PySem.W.findIn K (.ref C) m with
  | some (some (.ref p)) => (match PySem.W.recIn K p "staticmethod" with
    | some (.ref g :: _) => g
    | _ => 0)
  | _ => 0
inductive Pa where
  | g (x : Str)
  | m (C x : Str)
  | s (C x : Str)
def Pa.at (K : PySem.W.Frag) : Pa → Addr
  | .g x => ga K x
  | .m C x => ma K (ga K C) x
  | .s C x => sa K (ga K C) x
structure DX where
  pa : Pa
  name : Str
  qual : Str
  st : Stmt
  dfl : List Dv := []
  cl : List Str := []
abbrev VX : Type := Option (Str × Str × Arguments × FuncBody × Scope × Addr × List Str × Addr)
def fnV (K : PySem.W.Frag) (a : Addr) : VX := match K.lookup a with
  | some ⟨_, _, .func fd, _⟩ => some (fd.name, fd.qualname, fd.params, fd.body, fd.scope, fd.globals, fd.closure.map (·.1), fd.builtins)
  | _ => none
def fdA (K : PySem.W.Frag) (a : Addr) : FuncData := match K.lookup a with
  | some ⟨_, _, .func fd, _⟩ => fd
  | _ => default
def DX.val (d : DX) : VX := some (d.name, d.qual, defArgs d.st, .stmts (defBody d.st), defScope d.st, mainGlobals, d.cl, builtinsNs)
def DX.dvs (K : PySem.W.Frag) (d : DX) : List V := d.dfl.map (Dv.v K)
def DX.ok (K : PySem.W.Frag) (d : DX) : Bool := PySem.W.keepIn K (.ref (d.pa.at K)) && (match K.lookup (d.pa.at K) with
  | some ⟨_, _, .func fd, _⟩ => PySem.W.codeIn K fd.code d.qual && dflB K fd.defaults (d.dvs K)
  | _ => false)
theorem DX.funD {K : PySem.W.Frag} {d : DX} (hc : d.cl = []) (e : fnV K (d.pa.at K) = d.val) (c : d.ok K = true) : FunD K d.name d.qual (defArgs d.st) (defBody d.st) (defScope d.st) (d.dvs K) [] (d.pa.at K) (fdA K (d.pa.at K)) := by
  obtain ⟨kp, c2⟩ := ba c
  unfold fnV at e
  unfold fdA
  cases q : K.lookup (d.pa.at K) with
  | none =>
    rw [q] at c2
    cases c2
  | some o =>
    obtain ⟨oc, od, dt, osl⟩ := o
    rw [q] at c2 e
    cases dt with
    | func fd =>
      obtain ⟨n1, n2, n3, n4, n5, n6, n7, n8, n9, n10, n11, n12, n13, n14, n15⟩ := fd
      have e2 : (some (n1, n2, n3, n4, n5, n6, n7.map (·.1), n15) : VX) = some (d.name, d.qual, defArgs d.st, .stmts (defBody d.st), defScope d.st, mainGlobals, d.cl, builtinsNs) := e
      simp only [Option.some.injEq, Prod.mk.injEq] at e2
      obtain ⟨h1, h2, h3, h4, h5, h6, h7, h8⟩ := e2
      rw [hc] at h7
      have h7' : n7 = [] := List.map_eq_nil_iff.mp h7
      subst h1 h2 h3 h4 h5 h6 h7' h8
      obtain ⟨k1, k2⟩ := ba (show (PySem.W.codeIn K n13 d.qual && dflB K n8 (d.dvs K)) = true from c2)
      exact ⟨⟨oc, od, n8, n9, n10, n11, n12, n13, n14, osl, rfl, q, k1, dflB_ok k2, .inl rfl⟩, kp⟩
    | _ => cases c2
/-! ### error classes -/
def xcB (K : PySem.W.Frag) (C : Addr) : Bool := match K.lookup C with
  | some ⟨.type ty, _, .cls cd, sl⟩ => ty == "type" && (match cd.mro, sl.toList with
    | .ref C' :: bm, [_, _, _, _, some (.builtin n), _] => C' == C && n == "ValueError.__new__" && !cd.hasDel && cd.hasDict && PySem.HandSPX.refsVE bm
    | _, _ => false)
  | _ => false
def mroB (K : PySem.W.Frag) (C Lat : Addr) : Bool := decide ((PySem.W.clsIn K C).map (·.mro) = some (.ref C :: .ref Lat :: veBase))
/-- the class's __init__: its cell, its code -/
def initB (file : Str) (K : PySem.W.Frag) (C fI : Addr) : Bool := match K.lookup fI with
  | some ⟨_, _, .func fd, _⟩ => (match fd.closure, fd.code with
    | [(n, cc)], .ref cda => n == ("__class__" : Str) && (match K.lookup cc with
      | some ⟨_, _, .cell (some (.ref D)), _⟩ => D == C
      | _ => false) && (match K.lookup cda with
      | some ⟨_, _, .fields vs, _⟩ => (match (vs[2]? : Option Value) with
        | some (.str f _) => file == f
        | _ => false)
      | _ => false)
    | _, _ => false)
  | _ => false
def errB (file : Str) (K : PySem.W.Frag) (x : Str) : Bool :=
  xcB K (ga K x) && (decide (PySem.W.findIn K (.ref (ga K x)) "__setattr__" = some (some (.builtin "object.__setattr__"))) && (decide (PySem.W.subIn K (.ref (ga K x)) (.type "BaseException") = some true) &&
  (decide (PySem.W.typeIn K (.ref (ga K x)) = some (.type "type")) && (PySem.W.keepIn K (.ref (ga K x)) && (mroB K (ga K x) (ga K "LatticeError") && (initB file K (ga K x) (ma K (ga K x) "__init__") &&
  (decide (PySem.W.ks_superIn K (ga K x) (ga K x) "__init__" = some (some (.builtin "ValueError.__init__"))) && (decide (PySem.W.findIn K (.ref (ga K x)) "__getattribute__" = some (some (.builtin "BaseException.__getattribute__"))) &&
  (decide (PySem.W.findIn K (.ref (ga K x)) "__getattr__" = some none) && (PySem.W.hasDictIn K (ga K x) && (decide (PySem.W.findIn K (.ref (ga K x)) "__class__" = some (some (.builtin "object.__class__"))) &&
  (decide (PySem.W.findIn K (.ref (ga K x)) "__init__" = some (some (.ref (ma K (ga K x) "__init__")))) && decide (PySem.W.typeIn K (.ref (ma K (ga K x) "__init__")) = some (.type "function"))))))))))))))
/-! ### Frac -/
def statB (K : PySem.W.Frag) (C : Addr) (m : Str) : Bool := match PySem.W.findIn K (.ref C) m with
  | some (some (.ref p)) => (match PySem.W.findCls K (.ref C) (.type "type") m with
    | some (.get g a o t) => decide (g = .builtin "staticmethod.__get__") && (decide (a = .ref p) && (decide (o = .none) && decide (t = .ref C)))
    | _ => false) && (match PySem.W.recIn K p "staticmethod" with
    | some (.ref g :: _) => PySem.W.keepIn K (.ref g)
    | _ => false)
  | _ => false

def gloN0 : List PySem.Str := ["copied", "LatticeError", "DivisionByZero", "BadText", "BadSize", "BadSizes", "BadPlace", "BadCount", "BadName", "BadWeight", "BadSign", "BadTie"]
def gloN1 : List PySem.Str := ["BadLot", "Mismatch", "NotSymmetric", "NotPositive", "NotUnit", "NotWhole", "NotEven", "NotPerfect", "Singular", "Barred", "ZeroRow", "NoMirror"]
def gloN2 : List PySem.Str := ["NoBall", "Flat", "Loose", "TooMany", "TooLarge", "Ended", "NothingToUndo", "NothingToRedo", "NoDeed", "Stopped", "Frac", "common_divisor"]
def gloN3 : List PySem.Str := ["num_den", "to_wholes", "digits_of", "digits_end", "whole_at", "ratio_at", "look_ratio", "_law_cells", "_law_draw", "_law_whole", "_law_ours", "_law_truth"]
def gloN4 : List PySem.Str := ["_law_common", "_law_low", "_law_plus", "_law_is", "_law_number", "_law_twin", "_law_made", "_law_still", "_law_text", "_law_one", "_law_refused", "_law_divided"]
def gloN5 : List PySem.Str := ["_law_two", "_law_sums", "_law_scan", "_law_reads", "_law_digits", "_law_ratio", "_law_spoilt", "_law_kinds", "_law_errors", "law"]
def gloN : List PySem.Str := gloN0 ++ gloN1 ++ gloN2 ++ gloN3 ++ gloN4 ++ gloN5
def errN0 : List PySem.Str := ["DivisionByZero", "BadText", "BadSize", "BadSizes", "BadPlace", "BadCount", "BadName", "BadWeight", "BadSign", "BadTie", "BadLot", "Mismatch"]
def errN1 : List PySem.Str := ["NotSymmetric", "NotPositive", "NotUnit", "NotWhole", "NotEven", "NotPerfect", "Singular", "Barred", "ZeroRow", "NoMirror", "NoBall", "Flat"]
def errN2 : List PySem.Str := ["Loose", "TooMany", "TooLarge", "Ended", "NothingToUndo", "NothingToRedo", "NoDeed", "Stopped"]
def errN : List PySem.Str := errN0 ++ errN1 ++ errN2
def freeN0 : List PySem.Str := ["isinstance", "list", "tuple", "super", "abs", "str", "bool", "sum", "len", "int", "range", "zip"]
def freeN1 : List PySem.Str := ["ValueError"]
def freeN : List PySem.Str := freeN0 ++ freeN1
def looseN0 : List PySem.Str := ["__name__", "copied", "LatticeError", "DivisionByZero", "BadText", "BadSize", "BadSizes", "BadPlace", "BadCount", "BadName", "BadWeight", "BadSign"]
def looseN1 : List PySem.Str := ["BadTie", "BadLot", "Mismatch", "NotSymmetric", "NotPositive", "NotUnit", "NotWhole", "NotEven", "NotPerfect", "Singular", "Barred", "ZeroRow"]
def looseN2 : List PySem.Str := ["NoMirror", "NoBall", "Flat", "Loose", "TooMany", "TooLarge", "Ended", "NothingToUndo", "NothingToRedo", "NoDeed", "Stopped", "MOST_DIGITS"]
def looseN3 : List PySem.Str := ["FIRST_DIGITS", "DIGITS", "CHUNK_DIGITS", "CHUNK", "Frac", "common_divisor", "num_den", "to_wholes", "digits_of", "digits_end", "whole_at", "ratio_at"]
def looseN4 : List PySem.Str := ["look_ratio", "_law_cells", "_law_draw", "_law_whole", "_law_ours", "_law_truth", "_law_common", "_law_low", "_law_plus", "_law_is", "_law_number", "_law_twin"]
def looseN5 : List PySem.Str := ["_law_made", "_law_still", "_law_text", "_law_one", "_law_refused", "_law_divided", "_law_two", "_law_sums", "_law_scan", "_law_reads", "_law_digits", "_law_ratio"]
def looseN6 : List PySem.Str := ["_law_spoilt", "_law_kinds", "_law_errors"]
def looseN : List PySem.Str := looseN0 ++ looseN1 ++ looseN2 ++ looseN3 ++ looseN4 ++ looseN5 ++ looseN6
def methN0 : List PySem.Str := ["__add__", "__sub__", "__mul__", "__floordiv__", "__mod__", "__neg__", "__abs__", "__bool__", "__eq__", "__str__", "over", "compare"]
def methN1 : List PySem.Str := ["floor", "rest"]
def methN : List PySem.Str := methN0 ++ methN1
def noN0 : List PySem.Str := ["num", "den", "__radd__", "__rsub__", "__rmul__", "__rfloordiv__", "__rmod__"]
def noN : List PySem.Str := noN0
def statN : List PySem.Str := ["of", "sum_of", "read"]
def fldN0 : List (PySem.Str × PySem.Str) := [("BadText", "at"), ("BadSize", "size"), ("BadSizes", "given"), ("BadSizes", "wanted"), ("BadPlace", "place"), ("BadCount", "count"), ("BadName", "name"), ("BadWeight", "at")]
def fldN1 : List (PySem.Str × PySem.Str) := [("BadSign", "at"), ("BadTie", "index"), ("BadLot", "lot"), ("NotSymmetric", "row"), ("NotSymmetric", "column"), ("NotPositive", "row"), ("NotUnit", "det"), ("NotWhole", "row")]
def fldN2 : List (PySem.Str × PySem.Str) := [("NotWhole", "column"), ("NotEven", "place"), ("Singular", "row"), ("Barred", "weights"), ("NoMirror", "row"), ("Flat", "row"), ("Loose", "lot"), ("TooMany", "most")]
def fldN3 : List (PySem.Str × PySem.Str) := [("TooLarge", "value"), ("NoDeed", "name"), ("Stopped", "at")]
def fldN : List (PySem.Str × PySem.Str) := fldN0 ++ fldN1 ++ fldN2 ++ fldN3
def d_copied : DX := { pa := .g "copied", name := "copied", qual := "copied", st := top 1, dfl := [] }
def d_Fracd_initd : DX := { pa := .m "Frac" "__init__", name := "__init__", qual := "Frac.__init__", st := inClass (top 41) 0, dfl := [.int 0, .int 1] }
def d_Fracd_addd : DX := { pa := .m "Frac" "__add__", name := "__add__", qual := "Frac.__add__", st := inClass (top 41) 1, dfl := [] }
def d_Fracd_subd : DX := { pa := .m "Frac" "__sub__", name := "__sub__", qual := "Frac.__sub__", st := inClass (top 41) 2, dfl := [] }
def d_Fracd_muld : DX := { pa := .m "Frac" "__mul__", name := "__mul__", qual := "Frac.__mul__", st := inClass (top 41) 3, dfl := [] }
def d_Fracd_floordivd : DX := { pa := .m "Frac" "__floordiv__", name := "__floordiv__", qual := "Frac.__floordiv__", st := inClass (top 41) 4, dfl := [] }
def d_Fracd_modd : DX := { pa := .m "Frac" "__mod__", name := "__mod__", qual := "Frac.__mod__", st := inClass (top 41) 5, dfl := [] }
def d_Fracd_negd : DX := { pa := .m "Frac" "__neg__", name := "__neg__", qual := "Frac.__neg__", st := inClass (top 41) 6, dfl := [] }
def d_Fracd_absd : DX := { pa := .m "Frac" "__abs__", name := "__abs__", qual := "Frac.__abs__", st := inClass (top 41) 7, dfl := [] }
def d_Fracd_boold : DX := { pa := .m "Frac" "__bool__", name := "__bool__", qual := "Frac.__bool__", st := inClass (top 41) 8, dfl := [] }
def d_Fracd_eqd : DX := { pa := .m "Frac" "__eq__", name := "__eq__", qual := "Frac.__eq__", st := inClass (top 41) 9, dfl := [] }
def d_Fracd_strd : DX := { pa := .m "Frac" "__str__", name := "__str__", qual := "Frac.__str__", st := inClass (top 41) 10, dfl := [] }
def d_Frac_over : DX := { pa := .m "Frac" "over", name := "over", qual := "Frac.over", st := inClass (top 41) 11, dfl := [] }
def d_Frac_compare : DX := { pa := .m "Frac" "compare", name := "compare", qual := "Frac.compare", st := inClass (top 41) 12, dfl := [] }
def d_Frac_floor : DX := { pa := .m "Frac" "floor", name := "floor", qual := "Frac.floor", st := inClass (top 41) 13, dfl := [] }
def d_Frac_rest : DX := { pa := .m "Frac" "rest", name := "rest", qual := "Frac.rest", st := inClass (top 41) 14, dfl := [] }
def d_Frac_of : DX := { pa := .s "Frac" "of", name := "of", qual := "Frac.of", st := inClass (top 41) 15, dfl := [] }
def d_Frac_sum_of : DX := { pa := .s "Frac" "sum_of", name := "sum_of", qual := "Frac.sum_of", st := inClass (top 41) 16, dfl := [] }
def d_Frac_read : DX := { pa := .s "Frac" "read", name := "read", qual := "Frac.read", st := inClass (top 41) 17, dfl := [] }
def d_common_divisor : DX := { pa := .g "common_divisor", name := "common_divisor", qual := "common_divisor", st := top 42, dfl := [] }
def d_num_den : DX := { pa := .g "num_den", name := "num_den", qual := "num_den", st := top 43, dfl := [] }
def d_to_wholes : DX := { pa := .g "to_wholes", name := "to_wholes", qual := "to_wholes", st := top 44, dfl := [] }
def d_digits_of : DX := { pa := .g "digits_of", name := "digits_of", qual := "digits_of", st := top 45, dfl := [] }
def d_digits_end : DX := { pa := .g "digits_end", name := "digits_end", qual := "digits_end", st := top 46, dfl := [] }
def d_whole_at : DX := { pa := .g "whole_at", name := "whole_at", qual := "whole_at", st := top 47, dfl := [] }
def d_ratio_at : DX := { pa := .g "ratio_at", name := "ratio_at", qual := "ratio_at", st := top 48, dfl := [] }
def d_look_ratio : DX := { pa := .g "look_ratio", name := "look_ratio", qual := "look_ratio", st := top 49, dfl := [] }
def d__law_cells : DX := { pa := .g "_law_cells", name := "_law_cells", qual := "_law_cells", st := top 51, dfl := [] }
def d__law_draw : DX := { pa := .g "_law_draw", name := "_law_draw", qual := "_law_draw", st := top 52, dfl := [] }
def d__law_whole : DX := { pa := .g "_law_whole", name := "_law_whole", qual := "_law_whole", st := top 53, dfl := [] }
def d__law_ours : DX := { pa := .g "_law_ours", name := "_law_ours", qual := "_law_ours", st := top 54, dfl := [] }
def d__law_truth : DX := { pa := .g "_law_truth", name := "_law_truth", qual := "_law_truth", st := top 55, dfl := [] }
def d__law_common : DX := { pa := .g "_law_common", name := "_law_common", qual := "_law_common", st := top 56, dfl := [] }
def d__law_low : DX := { pa := .g "_law_low", name := "_law_low", qual := "_law_low", st := top 57, dfl := [] }
def d__law_plus : DX := { pa := .g "_law_plus", name := "_law_plus", qual := "_law_plus", st := top 58, dfl := [] }
def d__law_is : DX := { pa := .g "_law_is", name := "_law_is", qual := "_law_is", st := top 59, dfl := [] }
def d__law_number : DX := { pa := .g "_law_number", name := "_law_number", qual := "_law_number", st := top 60, dfl := [] }
def d__law_twin : DX := { pa := .g "_law_twin", name := "_law_twin", qual := "_law_twin", st := top 61, dfl := [] }
def d__law_made : DX := { pa := .g "_law_made", name := "_law_made", qual := "_law_made", st := top 62, dfl := [] }
def d__law_still : DX := { pa := .g "_law_still", name := "_law_still", qual := "_law_still", st := top 63, dfl := [] }
def d__law_text : DX := { pa := .g "_law_text", name := "_law_text", qual := "_law_text", st := top 64, dfl := [] }
def d__law_one : DX := { pa := .g "_law_one", name := "_law_one", qual := "_law_one", st := top 65, dfl := [] }
def d__law_refused : DX := { pa := .g "_law_refused", name := "_law_refused", qual := "_law_refused", st := top 66, dfl := [] }
def d__law_divided : DX := { pa := .g "_law_divided", name := "_law_divided", qual := "_law_divided", st := top 67, dfl := [] }
def d__law_two : DX := { pa := .g "_law_two", name := "_law_two", qual := "_law_two", st := top 68, dfl := [] }
def d__law_sums : DX := { pa := .g "_law_sums", name := "_law_sums", qual := "_law_sums", st := top 69, dfl := [] }
def d__law_scan : DX := { pa := .g "_law_scan", name := "_law_scan", qual := "_law_scan", st := top 70, dfl := [] }
def d__law_reads : DX := { pa := .g "_law_reads", name := "_law_reads", qual := "_law_reads", st := top 71, dfl := [] }
def d__law_digits : DX := { pa := .g "_law_digits", name := "_law_digits", qual := "_law_digits", st := top 72, dfl := [] }
def d__law_ratio : DX := { pa := .g "_law_ratio", name := "_law_ratio", qual := "_law_ratio", st := top 73, dfl := [] }
def d__law_spoilt : DX := { pa := .g "_law_spoilt", name := "_law_spoilt", qual := "_law_spoilt", st := top 74, dfl := [] }
def d__law_kinds : DX := { pa := .g "_law_kinds", name := "_law_kinds", qual := "_law_kinds", st := top 75, dfl := [] }
def d__law_errors : DX := { pa := .g "_law_errors", name := "_law_errors", qual := "_law_errors", st := top 76, dfl := [] }
def d_law : DX := { pa := .g "law", name := "law", qual := "law", st := top 77, dfl := [] }
def x_DivisionByZero : DX := { pa := .m "DivisionByZero" "__init__", name := "__init__", qual := "DivisionByZero.__init__", st := inClass (top 3) 0, cl := ["__class__"] }
def x_BadText : DX := { pa := .m "BadText" "__init__", name := "__init__", qual := "BadText.__init__", st := inClass (top 4) 0, cl := ["__class__"] }
def x_BadSize : DX := { pa := .m "BadSize" "__init__", name := "__init__", qual := "BadSize.__init__", st := inClass (top 5) 0, cl := ["__class__"] }
def x_BadSizes : DX := { pa := .m "BadSizes" "__init__", name := "__init__", qual := "BadSizes.__init__", st := inClass (top 6) 0, cl := ["__class__"] }
def x_BadPlace : DX := { pa := .m "BadPlace" "__init__", name := "__init__", qual := "BadPlace.__init__", st := inClass (top 7) 0, cl := ["__class__"] }
def x_BadCount : DX := { pa := .m "BadCount" "__init__", name := "__init__", qual := "BadCount.__init__", st := inClass (top 8) 0, cl := ["__class__"] }
def x_BadName : DX := { pa := .m "BadName" "__init__", name := "__init__", qual := "BadName.__init__", st := inClass (top 9) 0, cl := ["__class__"] }
def x_BadWeight : DX := { pa := .m "BadWeight" "__init__", name := "__init__", qual := "BadWeight.__init__", st := inClass (top 10) 0, cl := ["__class__"] }
def x_BadSign : DX := { pa := .m "BadSign" "__init__", name := "__init__", qual := "BadSign.__init__", st := inClass (top 11) 0, cl := ["__class__"] }
def x_BadTie : DX := { pa := .m "BadTie" "__init__", name := "__init__", qual := "BadTie.__init__", st := inClass (top 12) 0, cl := ["__class__"] }
def x_BadLot : DX := { pa := .m "BadLot" "__init__", name := "__init__", qual := "BadLot.__init__", st := inClass (top 13) 0, cl := ["__class__"] }
def x_Mismatch : DX := { pa := .m "Mismatch" "__init__", name := "__init__", qual := "Mismatch.__init__", st := inClass (top 14) 0, cl := ["__class__"] }
def x_NotSymmetric : DX := { pa := .m "NotSymmetric" "__init__", name := "__init__", qual := "NotSymmetric.__init__", st := inClass (top 15) 0, cl := ["__class__"] }
def x_NotPositive : DX := { pa := .m "NotPositive" "__init__", name := "__init__", qual := "NotPositive.__init__", st := inClass (top 16) 0, cl := ["__class__"] }
def x_NotUnit : DX := { pa := .m "NotUnit" "__init__", name := "__init__", qual := "NotUnit.__init__", st := inClass (top 17) 0, cl := ["__class__"] }
def x_NotWhole : DX := { pa := .m "NotWhole" "__init__", name := "__init__", qual := "NotWhole.__init__", st := inClass (top 18) 0, cl := ["__class__"] }
def x_NotEven : DX := { pa := .m "NotEven" "__init__", name := "__init__", qual := "NotEven.__init__", st := inClass (top 19) 0, cl := ["__class__"] }
def x_NotPerfect : DX := { pa := .m "NotPerfect" "__init__", name := "__init__", qual := "NotPerfect.__init__", st := inClass (top 20) 0, cl := ["__class__"] }
def x_Singular : DX := { pa := .m "Singular" "__init__", name := "__init__", qual := "Singular.__init__", st := inClass (top 21) 0, cl := ["__class__"] }
def x_Barred : DX := { pa := .m "Barred" "__init__", name := "__init__", qual := "Barred.__init__", st := inClass (top 22) 0, cl := ["__class__"] }
def x_ZeroRow : DX := { pa := .m "ZeroRow" "__init__", name := "__init__", qual := "ZeroRow.__init__", st := inClass (top 23) 0, cl := ["__class__"] }
def x_NoMirror : DX := { pa := .m "NoMirror" "__init__", name := "__init__", qual := "NoMirror.__init__", st := inClass (top 24) 0, cl := ["__class__"] }
def x_NoBall : DX := { pa := .m "NoBall" "__init__", name := "__init__", qual := "NoBall.__init__", st := inClass (top 25) 0, cl := ["__class__"] }
def x_Flat : DX := { pa := .m "Flat" "__init__", name := "__init__", qual := "Flat.__init__", st := inClass (top 26) 0, cl := ["__class__"] }
def x_Loose : DX := { pa := .m "Loose" "__init__", name := "__init__", qual := "Loose.__init__", st := inClass (top 27) 0, cl := ["__class__"] }
def x_TooMany : DX := { pa := .m "TooMany" "__init__", name := "__init__", qual := "TooMany.__init__", st := inClass (top 28) 0, cl := ["__class__"] }
def x_TooLarge : DX := { pa := .m "TooLarge" "__init__", name := "__init__", qual := "TooLarge.__init__", st := inClass (top 29) 0, cl := ["__class__"] }
def x_Ended : DX := { pa := .m "Ended" "__init__", name := "__init__", qual := "Ended.__init__", st := inClass (top 30) 0, cl := ["__class__"] }
def x_NothingToUndo : DX := { pa := .m "NothingToUndo" "__init__", name := "__init__", qual := "NothingToUndo.__init__", st := inClass (top 31) 0, cl := ["__class__"] }
def x_NothingToRedo : DX := { pa := .m "NothingToRedo" "__init__", name := "__init__", qual := "NothingToRedo.__init__", st := inClass (top 32) 0, cl := ["__class__"] }
def x_NoDeed : DX := { pa := .m "NoDeed" "__init__", name := "__init__", qual := "NoDeed.__init__", st := inClass (top 33) 0, cl := ["__class__"] }
def x_Stopped : DX := { pa := .m "Stopped" "__init__", name := "__init__", qual := "Stopped.__init__", st := inClass (top 34) 0, cl := ["__class__"] }
def dl0 : List DX := [d_copied, d_Fracd_initd, d_Fracd_addd, d_Fracd_subd, d_Fracd_muld, d_Fracd_floordivd, d_Fracd_modd, d_Fracd_negd, d_Fracd_absd, d_Fracd_boold, d_Fracd_eqd, d_Fracd_strd]
def dl1 : List DX := [d_Frac_over, d_Frac_compare, d_Frac_floor, d_Frac_rest, d_Frac_of, d_Frac_sum_of, d_Frac_read, d_common_divisor, d_num_den, d_to_wholes, d_digits_of, d_digits_end]
def dl2 : List DX := [d_whole_at, d_ratio_at, d_look_ratio, d__law_cells, d__law_draw, d__law_whole, d__law_ours, d__law_truth, d__law_common, d__law_low, d__law_plus, d__law_is]
def dl3 : List DX := [d__law_number, d__law_twin, d__law_made, d__law_still, d__law_text, d__law_one, d__law_refused, d__law_divided, d__law_two, d__law_sums, d__law_scan, d__law_reads]
def dl4 : List DX := [d__law_digits, d__law_ratio, d__law_spoilt, d__law_kinds, d__law_errors, d_law]
def el0 : List DX := [x_DivisionByZero, x_BadText, x_BadSize, x_BadSizes, x_BadPlace, x_BadCount, x_BadName, x_BadWeight, x_BadSign, x_BadTie, x_BadLot, x_Mismatch]
def el1 : List DX := [x_NotSymmetric, x_NotPositive, x_NotUnit, x_NotWhole, x_NotEven, x_NotPerfect, x_Singular, x_Barred, x_ZeroRow, x_NoMirror, x_NoBall, x_Flat]
def el2 : List DX := [x_Loose, x_TooMany, x_TooLarge, x_Ended, x_NothingToUndo, x_NothingToRedo, x_NoDeed, x_Stopped]
def fn : List DX := dl0 ++ dl1 ++ dl2 ++ dl3 ++ dl4 ++ el0 ++ el1 ++ el2
def file : Str := PR.main.file
def fracB (K : PySem.W.Frag) : Bool := decide (PySem.W.findIn K (.ref (ga K "Frac")) "__class__" = some (some (.builtin "object.__class__"))) && ((Fa.cls "Frac").ok K && ((Fa.mkr "Frac").ok K && (PySem.W.selfFirst K (ga K "Frac") && (decide (PySem.W.subIn K (.type "int") (.ref (ga K "Frac")) = some false) && (decide (PySem.W.subIn K (.type "str") (.ref (ga K "Frac")) = some false) &&
  (decide (PySem.W.findIn K (.ref (ga K "Frac")) "__ne__" = some (some (.builtin "object.__ne__"))) && (decide (PySem.W.mroIn K (ga K "Frac") (.type "object") = some true) && (PySem.W.readsIn K (ga K "Frac") (.type "type") &&
  (decide (PySem.W.specialIn K (.ref (ga K "Frac")) "__getattribute__" = some (some (.builtin "type.__getattribute__"))) && ((methN.all fun m => (Fa.meth "Frac" m).ok K) && ((noN.all fun m => (Fa.noat "Frac" m).ok K) && ((statN.all fun m => statB K (ga K "Frac") m) &&
  (decide (PySem.W.kitOne K (.type "int") (.ref (ga K "Frac")) = some false) && (decide (PySem.W.kitOne K (.type "bool") (.ref (ga K "Frac")) = some false) && (decide (PySem.W.kitOne K (.type "str") (.ref (ga K "Frac")) = some false) &&
  (decide (PySem.W.kitOne K (.ref (ga K "Frac")) (.ref (ga K "Frac")) = some true) && (decide (PySem.W.kitOne K (.ref (ga K "Frac")) (.type "int") = some false) && (decide (PySem.W.kitOne K (.ref (ga K "Frac")) (.type "bool") = some false) &&
  (decide (PySem.W.kitOne K (.ref (ga K "Frac")) (.type "list") = some false) && decide (PySem.W.kitOne K (.ref (ga K "Frac")) (.type "tuple") = some false))))))))))))))))))))
def genB (K : PySem.W.Frag) : Bool := decide (PySem.W.specialIn K (.builtin "object.__class__") "__get__" = some (some (.builtin "getset_descriptor.__get__"))) && (decide (PySem.W.takesIn K (.builtin "object.__class__") = some true) &&
  (decide (PySem.W.nsIn K PySem.cStatics "thirdparty.any" = some none) && (decide (((("LatticeError" : Str) :: errN).map (ga K)).Nodup) && (decide (PySem.W.typeIn K (.ref (ga K "LatticeError")) = some (.type "type")) && (PySem.W.clsIn K (ga K "LatticeError")).isSome))))
def fa : List (PySem.W.Frag → Bool) := [
  fun K => gloN.all fun x => (Fa.glo x).ok K,
  fun K => freeN.all fun x => (Fa.free x).ok K,
  fun K => (Fa.int "MOST_DIGITS" 12).ok K && ((Fa.int "CHUNK_DIGITS" 60).ok K && ((Fa.int "CHUNK" (10 ^ 60)).ok K && ((Fa.str "FIRST_DIGITS" "123456789").ok K && (Fa.str "DIGITS" "0123456789").ok K))),
  fun K => errN.all fun x => errB file K x,
  fun K => fldN.all fun p => (Fa.noat p.1 p.2).ok K,
  fracB,
  genB]
abbrev AlX : Type := Bool × List VX
def obsX (K : PySem.W.Frag) : AlX := ((fa.all fun f => f K) && fn.all fun d => d.ok K, fn.map fun d => fnV K (d.pa.at K))
def valX : AlX := (true, fn.map DX.val)
def SaysX (K : PySem.W.Frag) : Prop := obsX K = valX
def adr0 : List Nat := [3, 6, 4, 19, 29, 51, 72, 93, 114, 135, 156, 177, 198, 219, 240, 261, 282, 303, 324, 345, 366, 387, 408, 429, 450, 471, 492, 513, 534, 555, 576, 597, 618, 639, 660, 681, 702, 850, 861, 868]
def adr1 : List Nat := [875, 882, 889, 896, 903, 910, 915, 922, 929, 936, 943, 950, 957, 964, 971, 978, 985, 992, 999, 1006, 1013, 1020, 1027, 1034, 1039, 1046, 1053, 1060, 1067, 1074, 1079, 1084, 1089, 1088, 1083, 1078, 1073, 1066, 1059, 1052]
def adr2 : List Nat := [1045, 1038, 1033, 1026, 1019, 1012, 1005, 998, 991, 984, 977, 970, 963, 956, 949, 942, 935, 928, 921, 914, 909, 902, 895, 888, 881, 874, 867, 860, 849, 701, 680, 659, 638, 617, 596, 575, 554, 533, 512, 491]
def adr3 : List Nat := [470, 449, 428, 407, 386, 365, 344, 323, 302, 281, 260, 239, 218, 197, 176, 155, 134, 113, 92, 71, 50, 28, 18, 0, 15, 16, 17, 27, 30, 48, 49, 69, 70, 90, 91, 111, 112, 132, 133, 153]
def adr4 : List Nat := [154, 174, 175, 195, 196, 216, 217, 237, 238, 258, 259, 279, 280, 300, 301, 321, 322, 342, 343, 363, 364, 384, 385, 405, 406, 426, 427, 447, 448, 468, 469, 489, 490, 510, 511, 531, 532, 552, 553, 573]
def adr5 : List Nat := [574, 594, 595, 615, 616, 636, 637, 657, 658, 678, 679, 699, 700, 719, 726, 733, 740, 747, 754, 761, 768, 775, 782, 789, 796, 803, 810, 817, 826, 836, 846, 848, 851, 852, 855, 856, 857, 858, 859, 862]
def adr6 : List Nat := [863, 864, 865, 866, 869, 870, 871, 872, 873, 876, 877, 878, 879, 880, 883, 884, 885, 886, 887, 890, 891, 892, 893, 894, 897, 898, 899, 900, 901, 904, 905, 906, 907, 908, 911, 912, 913, 916, 917, 918]
def adr7 : List Nat := [919, 920, 923, 924, 925, 926, 927, 930, 931, 932, 933, 934, 937, 938, 939, 940, 941, 944, 945, 946, 947, 948, 951, 952, 953, 954, 955, 958, 959, 960, 961, 962, 965, 966, 967, 968, 969, 972, 973, 974]
def adr8 : List Nat := [975, 976, 979, 980, 981, 982, 983, 986, 987, 988, 989, 990, 993, 994, 995, 996, 997, 1000, 1001, 1002, 1003, 1004, 1007, 1008, 1009, 1010, 1011, 1014, 1015, 1016, 1017, 1018, 1021, 1022, 1023, 1024, 1025, 1028, 1029, 1030]
def adr9 : List Nat := [1031, 1032, 1035, 1036, 1037, 1040, 1041, 1042, 1043, 1044, 1047, 1048, 1049, 1050, 1051, 1054, 1055, 1056, 1057, 1058, 1061, 1062, 1063, 1064, 1065, 1068, 1069, 1070, 1071, 1072, 1075, 1076, 1077, 1080, 1081, 1082, 1085, 1086, 1087, 844]
def adr10 : List Nat := [845, 834, 835, 824, 825, 816, 809, 802, 795, 788, 781, 774, 767, 760, 753, 746, 739, 732, 725, 718, 712, 698, 687, 677, 666, 656, 645, 635, 624, 614, 603, 593, 582, 572, 561, 551, 540, 530, 519, 509]
def adr11 : List Nat := [498, 488, 477, 467, 456, 446, 435, 425, 414, 404, 393, 383, 372, 362, 351, 341, 330, 320, 309, 299, 288, 278, 267, 257, 246, 236, 225, 215, 204, 194, 183, 173, 162, 152, 141, 131, 120, 110, 99, 89]
def adr12 : List Nat := [78, 68, 57, 47, 36, 42, 43, 44, 45, 46, 63, 64, 65, 66, 67, 84, 85, 86, 87, 88, 105, 106, 107, 108, 109, 126, 127, 128, 129, 130, 147, 148, 149, 150, 151, 168, 169, 170, 171, 172]
def adr13 : List Nat := [189, 190, 191, 192, 193, 210, 211, 212, 213, 214, 231, 232, 233, 234, 235, 252, 253, 254, 255, 256, 273, 274, 275, 276, 277, 294, 295, 296, 297, 298, 315, 316, 317, 318, 319, 336, 337, 338, 339, 340]
def adr14 : List Nat := [357, 358, 359, 360, 361, 378, 379, 380, 381, 382, 399, 400, 401, 402, 403, 420, 421, 422, 423, 424, 441, 442, 443, 444, 445, 462, 463, 464, 465, 466, 483, 484, 485, 486, 487, 504, 505, 506, 507, 508]
def adr15 : List Nat := [525, 526, 527, 528, 529, 546, 547, 548, 549, 550, 567, 568, 569, 570, 571, 588, 589, 590, 591, 592, 609, 610, 611, 612, 613, 630, 631, 632, 633, 634, 651, 652, 653, 654, 655, 672, 673, 674, 675, 676]
def adr16 : List Nat := [693, 694, 695, 696, 697, 713, 714, 715, 716, 717, 720, 721, 722, 723, 724, 727, 728, 729, 730, 731, 734, 735, 736, 737, 738, 741, 742, 743, 744, 745, 748, 749, 750, 751, 752, 755, 756, 757, 758, 759]
def adr17 : List Nat := [762, 763, 764, 765, 766, 769, 770, 771, 772, 773, 776, 777, 778, 779, 780, 783, 784, 785, 786, 787, 790, 791, 792, 793, 794, 797, 798, 799, 800, 801, 804, 805, 806, 807, 808, 811, 812, 813, 814, 815]
def adr18 : List Nat := [827, 823, 837, 833, 847, 843]
def adrs : List Nat := adr0 ++ (adr1 ++ (adr2 ++ (adr3 ++ (adr4 ++ (adr5 ++ (adr6 ++ (adr7 ++ (adr8 ++ (adr9 ++ (adr10 ++ (adr11 ++ (adr12 ++ (adr13 ++ (adr14 ++ (adr15 ++ (adr16 ++ (adr17 ++ (adr18))))))))))))))))))
def kOf (g : Addr → Option Obj) : PySem.W.Frag := frG g (adrs ++ [PySem.cStatics])
def hk : PySem.W.Hook where
  α := AlX
  obs := fun s => obsX (kOf s.heap.get?)
  val := fun _ => valX
  says := fun _ h => ∃ K : PySem.W.Frag, K.In h ∧ SaysX K
  of := fun _ _ e => ⟨_, frG_in, e⟩
  keeps := fun _ _ _ ⟨K, hK, c⟩ k => ⟨K, PySem.W.Frag.In.keeps hK k, c⟩
def ob (s : PySem.W.SharedT) : AlX := obsX (kOf (HandSHeadRun.getT s))
theorem ob_eq (s : PySem.W.SharedT) : ob s = hk.obs s.abs := by
  have e : HandSHeadRun.getT s = s.abs.heap.get? := funext (HandSHeadRun.getT_eq s)
  show obsX (kOf (HandSHeadRun.getT s)) = obsX (kOf s.abs.heap.get?)
  rw [e]
theorem SaysX.fact {K : PySem.W.Frag} (c : SaysX K) (i : Nat) {f : PySem.W.Frag → Bool} (h : fa[i]? = some f := by rfl) : f K = true := by
  have c1 := (ba (show ((fa.all fun f => f K) && fn.all fun d => d.ok K) = true from congrArg (fun z : AlX => z.1) c)).1
  exact List.all_eq_true.mp c1 f (List.mem_of_getElem? h)
theorem SaysX.def_ {K : PySem.W.Frag} (c : SaysX K) (i : Nat) {d : DX} (h : fn[i]? = some d := by rfl) : fnV K (d.pa.at K) = d.val ∧ d.ok K = true := by
  have c2 := (ba (show ((fa.all fun f => f K) && fn.all fun d => d.ok K) = true from congrArg (fun z : AlX => z.1) c)).2
  have e : fn.map (fun d => fnV K (d.pa.at K)) = fn.map DX.val := congrArg (fun z : AlX => z.2) c
  have e2 : (fn.map fun d => fnV K (d.pa.at K))[i]? = (fn.map DX.val)[i]? := by rw [e]
  rw [List.getElem?_map, List.getElem?_map, h] at e2
  exact ⟨Option.some.inj e2, List.all_eq_true.mp c2 d (List.mem_of_getElem? h)⟩
theorem SaysX.funD {K : PySem.W.Frag} (c : SaysX K) (i : Nat) {d : DX} (h : fn[i]? = some d := by rfl) (hc : d.cl = [] := by rfl) : FunD K d.name d.qual (defArgs d.st) (defBody d.st) (defScope d.st) (d.dvs K) [] (d.pa.at K) (fdA K (d.pa.at K)) :=
  DX.funD hc (c.def_ i h).1 (c.def_ i h).2
end K0
namespace K0
open PySem PySem.Spec PyProof.Rows L2 He HX
set_option maxHeartbeats 0 in
theorem run (w : World) : HandSHeadRun.RunEq R qv hk ob 20000 looseN w := by
  intro os
  kernel_rfl
end K0
/-! what the head tells, by names; calls in short -/
namespace K0
open PySem PySem.Spec PyProof.Rows L2 He HX
structure HK (K : PySem.W.Frag) (mg : Str → Option Value) : Prop where
  says : SaysX K
  g : ∀ x ∈ gloN, mg x = some (.ref (ga K x))
  fr : ∀ x ∈ freeN, mg x = none
  most : ∃ t, mg "MOST_DIGITS" = some (.int 12 t)
  chd : ∃ t, mg "CHUNK_DIGITS" = some (.int 60 t)
  chunk : ∃ t, mg "CHUNK" = some (.int (10 ^ 60) t)
  first : ∃ t, mg "FIRST_DIGITS" = some (.str "123456789" t)
  digits : ∃ t, mg "DIGITS" = some (.str "0123456789" t)
theorem hk_of {K : PySem.W.Frag} {h : Heap} {mg : Str → Option Value} (c : SaysX K) (X : K.In h) (G : h.Ns mainGlobals mg) : HK K mg := by
  have c2 := c.fact 2 rfl
  obtain ⟨c2a, c2⟩ := ba c2
  obtain ⟨c2b, c2⟩ := ba c2
  obtain ⟨c2c, c2⟩ := ba c2
  obtain ⟨c2d, c2e⟩ := ba c2
  exact ⟨c, fun x hx => glo_ok X G (List.all_eq_true.mp (c.fact 0 rfl) x hx), fun x hx => free_ok X G (List.all_eq_true.mp (c.fact 1 rfl) x hx), int_ok X G c2a, int_ok X G c2b, int_ok X G c2c, str_ok X G c2d, str_ok X G c2e⟩
section
variable {K : PySem.W.Frag} {mg : Str → Option Value}
theorem HK.glo (h : HK K mg) (x : Str) (hx : x ∈ gloN := by decide +kernel) : mg x = some (.ref (ga K x)) := h.g x hx
theorem HK.free (h : HK K mg) (x : Str) (hx : x ∈ freeN := by decide +kernel) : mg x = none := h.fr x hx
/-! ### error classes -/
def dec_ {α : Type} [DecidableEq α] {a b : α} (h : decide (a = b) = true) : a = b := of_decide_eq_true h
theorem xc_ok {K : PySem.W.Frag} {C : Addr} (h : xcB K C = true) : ∃ nm q N bs bm sn sub ab col dd k0 k1 k2 k3 k5, K.lookup C = some (excClassObj nm q C N bs bm true sn sub ab col dd k0 k1 k2 k3 k5 "ValueError.__new__") ∧ PySem.HandSPX.refsVE bm = true := by
  unfold xcB at h
  split at h
  · rename_i ty dct cd sl ho
    obtain ⟨h1, h2⟩ := ba h
    have hty := eq_of_beq h1
    subst hty
    split at h2
    · rename_i C' bm k0 k1 k2 k3 n k5 hm hs
      simp only [Bool.and_eq_true, beq_iff_eq, Bool.not_eq_true'] at h2
      obtain ⟨⟨⟨⟨hC, hn⟩, hd⟩, hdc⟩, hr⟩ := h2
      subst hC hn
      have es : sl = #[k0, k1, k2, k3, some (.builtin "ValueError.__new__"), k5] := by
        rw [← hs]
      subst es
      obtain ⟨a1, a2, a3, a4, a5, a6, a7, a8, a9, a10, a11⟩ := cd
      dsimp only at hm hd hdc
      subst hm hd hdc
      exact ⟨_, _, _, _, bm, _, _, _, _, _, k0, k1, k2, k3, k5, ho, hr⟩
    · cases h2
  · cases h
theorem kitCls_ref {K : PySem.W.Frag} {t : Value} {C : Addr} (h1 : (PySem.W.clsIn K C).isSome = true) (h2 : PySem.W.typeIn K (.ref C) = some (.type "type")) : PySem.W.kitCls K t (.ref C) = PySem.W.subIn K t (.ref C) := by
  show (if ((PySem.W.clsIn K C).isSome && PySem.W.typeIn K (.ref C) == some (.type "type")) = true then PySem.W.subIn K t (.ref C) else none) = _
  rw [if_pos (by rw [h1, h2] <;> rfl)]
/-- all that is known of an error class -/
structure EF (K : PySem.W.Frag) (x : Str) : Prop where
  oex : OexC K (ga K x)
  erc : ErrC K (ga K x)
  iC : PySem.W.findIn K (.ref (ga K x)) "__init__" = some (some (.ref (ma K (ga K x) "__init__")))
  tI : PySem.W.typeIn K (.ref (ma K (ga K x) "__init__")) = some (.type "function")
  mro : (PySem.W.clsIn K (ga K x)).map (·.mro) = some (.ref (ga K x) :: .ref (ga K "LatticeError") :: veBase)
  exm : PySem.W.exmOne K (.ref (ga K x)) (.ref (ga K x)) = some true
theorem mroIn_of {C b : Addr} {v : Value} (h : (PySem.W.clsIn K C).map (·.mro) = some (.ref C :: .ref b :: veBase)) : PySem.W.mroIn K C v = some (decide (v = .ref C) || (decide (v = .ref b) || veBase.contains v)) := by
  obtain ⟨cd, hc, hm⟩ := Option.map_eq_some_iff.mp h
  unfold PySem.W.mroIn
  rw [hc]
  show (if cd.mro.isEmpty = true then none else some (cd.mro.contains v)) = _
  rw [hm]
  show some ((Value.ref C :: Value.ref b :: veBase).contains v) = _
  rw [List.contains_cons, List.contains_cons]
  congr 1
theorem HK.gen (h : HK K mg) : genB K = true := h.says.fact 6 rfl
theorem HK.errb (h : HK K mg) (x : Str) (hx : x ∈ errN) : errB file K x = true := List.all_eq_true.mp (h.says.fact 3 rfl) x hx
theorem cls_some {C : Addr} {l : List Value} (h : (PySem.W.clsIn K C).map (·.mro) = some l) : (PySem.W.clsIn K C).isSome = true := by
  obtain ⟨cd, hc, _⟩ := Option.map_eq_some_iff.mp h
  rw [hc] <;> rfl
theorem HK.ef (h : HK K mg) (x : Str) (hx : x ∈ errN := by decide +kernel) : EF K x := by
  have e := h.errb x hx
  have gg := h.gen
  unfold errB at e
  unfold genB at gg
  simp only [Bool.and_eq_true, decide_eq_true_eq] at e gg
  obtain ⟨e1, e2, e3, e4, e5, e6, e7, e8, e9, e10, e11, e12, e13, e14⟩ := e
  obtain ⟨g1, g2, g3, g4, g5, g6⟩ := gg
  have m : (PySem.W.clsIn K (ga K x)).map (·.mro) = some (.ref (ga K x) :: .ref (ga K "LatticeError") :: veBase) := dec_ (by unfold mroB at e6; exact e6)
  refine ⟨⟨xc_ok e1, e2, e3, e4, e5⟩, ⟨e9, e10, e3, e11, e12, g1, g2, ?_⟩, e13, e14, m, ?_⟩
  · rw [mroIn_of m]
    rfl
  · unfold PySem.W.exmOne
    rw [if_pos (by rw [e3] <;> rfl)]
    rw [kitCls_ref (cls_some m) e4]
    show PySem.W.mroIn K (ga K x) (.ref (ga K x)) = _
    rw [mroIn_of m]
    simp
/-- isinstance of an error: its own class -/
theorem HK.kitE (h : HK K mg) (x y : Str) (hx : x ∈ errN) (hy : y ∈ errN) : PySem.W.kitOne K (.ref (ga K x)) (.ref (ga K y)) = some (decide (x = y)) := by
  have ex := h.ef x hx
  have ey := h.ef y hy
  have gg := h.gen
  unfold genB at gg
  simp only [Bool.and_eq_true, decide_eq_true_eq] at gg
  obtain ⟨g1, g2, g3, g4, g5, g6⟩ := gg
  unfold PySem.W.kitOne
  by_cases e : x = y
  · subst e
    rw [if_pos (by simp)]
    simp
  · have ne : ∀ {a b : Str}, a ∈ (("LatticeError" : Str) :: errN) → b ∈ (("LatticeError" : Str) :: errN) → a ≠ b → ga K a ≠ ga K b := fun {a b} ha hb hab q => by
      obtain ⟨i, ei⟩ := List.mem_iff_getElem?.mp ha
      obtain ⟨j, ej⟩ := List.mem_iff_getElem?.mp hb
      have := L2.nd_ix g4 (i := i) (j := j) (x := ga K a) (by rw [List.getElem?_map, ei]; rfl) (by rw [List.getElem?_map, ej, q]; rfl)
      subst this
      exact hab (Option.some.inj (ei.symm.trans ej))
    have n1 : ga K x ≠ ga K y := ne (List.mem_cons_of_mem _ hx) (List.mem_cons_of_mem _ hy) e
    have n2 : ga K y ≠ ga K "LatticeError" := ne (List.mem_cons_of_mem _ hy) List.mem_cons_self (fun q => by
      rw [q] at hy
      exact absurd hy (by decide +kernel))
    rw [if_neg (by simpa using n1)]
    rw [kitCls_ref (cls_some ey.mro) ey.oex.tyC]
    show PySem.W.mroIn K (ga K x) (.ref (ga K y)) = _
    rw [mroIn_of ex.mro, decide_eq_false e, decide_eq_false (fun z => n1 (Value.ref.inj z).symm), decide_eq_false (fun z => n2 (Value.ref.inj z))]
    rfl
theorem HK.kitL (h : HK K mg) (x : Str) (hx : x ∈ errN) : PySem.W.kitOne K (.ref (ga K x)) (.ref (ga K "LatticeError")) = some true := by
  have ex := h.ef x hx
  have gg := h.gen
  unfold genB at gg
  simp only [Bool.and_eq_true, decide_eq_true_eq] at gg
  obtain ⟨g1, g2, g3, g4, g5, g6⟩ := gg
  unfold PySem.W.kitOne
  split
  · rfl
  · rw [kitCls_ref g6 g5]
    show PySem.W.mroIn K (ga K x) (.ref (ga K "LatticeError")) = _
    rw [mroIn_of ex.mro]
    simp
theorem HK.kitV (h : HK K mg) (x : Str) (hx : x ∈ errN) : PySem.W.kitOne K (.ref (ga K x)) (.type "ValueError") = some true := by
  have ex := h.ef x hx
  unfold PySem.W.kitOne
  rw [if_neg (by simp)]
  unfold PySem.W.kitCls
  show (if PySem.W.kitMeta "ValueError" = true then PySem.W.subIn K (.ref (ga K x)) (.type "ValueError") else none) = _
  rw [if_pos (by decide +kernel)]
  show PySem.W.mroIn K (ga K x) (.type "ValueError") = _
  rw [mroIn_of ex.mro]
  rfl
theorem HK.fld (h : HK K mg) (x f : Str) (hx : (x, f) ∈ fldN := by decide +kernel) : PySem.W.findIn K (.ref (ga K x)) f = some none := noat_ok (List.all_eq_true.mp (h.says.fact 4 rfl) (x, f) hx)
/-- the __init__ of an error class -/
theorem HK.init (h : HK K mg) (x : Str) (i : Nat) {d : DX} (hi : fn[i]? = some d) (hp : d.pa.at K = ma K (ga K x) "__init__") (hc : d.cl = [("__class__" : Str)]) (hdf : d.dfl = []) (hx : x ∈ errN := by decide +kernel) :
    ∃ (cc cda : Addr) (oc : Value) (od : Option Addr) (kV doc pm : Value) (an : Option Addr) (ct : Value) (osl : Array (Option Value)),
      fdA K (ma K (ga K x) "__init__") = PySem.W.fnX d.name d.qual (defArgs d.st) (defBody d.st) (defScope d.st) [("__class__", cc)] .none kV doc pm an (.ref cda) ct ∧
      K.lookup (ma K (ga K x) "__init__") = some ⟨oc, od, .func (PySem.W.fnX d.name d.qual (defArgs d.st) (defBody d.st) (defScope d.st) [("__class__", cc)] .none kV doc pm an (.ref cda) ct), osl⟩ ∧
      PySem.W.codeIn K (.ref cda) d.qual = true ∧ SupC PR K (ga K x) (ma K (ga K x) "__init__") cc cda := by
  have e := h.errb x hx
  have gg := h.gen
  unfold errB at e
  unfold genB at gg
  simp only [Bool.and_eq_true, decide_eq_true_eq] at e gg
  obtain ⟨e1, e2, e3, e4, e5, e6, e7, e8, e9, e10, e11, e12, e13, e14⟩ := e
  obtain ⟨g1, g2, g3, g4, g5, g6⟩ := gg
  have m : (PySem.W.clsIn K (ga K x)).map (·.mro) = some (.ref (ga K x) :: .ref (ga K "LatticeError") :: veBase) := dec_ (by unfold mroB at e6; exact e6)
  obtain ⟨v, c⟩ := h.says.def_ i hi
  rw [hp] at v
  unfold DX.ok at c
  rw [hp] at c
  obtain ⟨kp, c2⟩ := ba c
  unfold fnV at v
  unfold fdA
  unfold initB at e7
  cases q : K.lookup (ma K (ga K x) "__init__") with
  | none =>
    rw [q] at c2
    cases c2
  | some o =>
    obtain ⟨oc, od, dt, osl⟩ := o
    rw [q] at c2 v e7
    cases dt with
    | func fd =>
      obtain ⟨n1, n2, n3, n4, n5, n6, n7, n8, n9, n10, n11, n12, n13, n14, n15⟩ := fd
      have e2 : (some (n1, n2, n3, n4, n5, n6, n7.map (·.1), n15) : VX) = some (d.name, d.qual, defArgs d.st, .stmts (defBody d.st), defScope d.st, mainGlobals, d.cl, builtinsNs) := v
      simp only [Option.some.injEq, Prod.mk.injEq] at e2
      obtain ⟨h1, h2, h3, h4, h5, h6, h7, h8⟩ := e2
      dsimp only at e7
      split at e7
      · rename_i n cc cda
        simp only [Bool.and_eq_true, beq_iff_eq] at e7
        obtain ⟨⟨en, ec⟩, ed⟩ := e7
        subst h1 h2 h3 h4 h5 h6 h8

        subst en
        obtain ⟨k1, k2⟩ := ba (show (PySem.W.codeIn K (.ref cda) d.qual && dflB K n8 (d.dvs K)) = true from c2)
        have hn8 : n8 = .none := by
          unfold DX.dvs at k2
          rw [hdf] at k2
          rcases dflB_ok k2 with ⟨_, e⟩ | ⟨e, _⟩
          · exact e
          · exact absurd rfl e
        subst hn8
        refine ⟨cc, cda, oc, od, n9, n10, n11, n12, n14, osl, rfl, rfl, k1, ⟨xc_ok e1, ?_, ?_, ?_, e8, ?_, g3, ?_, by decide +kernel⟩⟩
        · split at ec
          · rename_i cl cld D csl hcc
            have := eq_of_beq ec
            subst this
            exact ⟨_, _, _, hcc⟩
          · cases ec
        · split at ed
          · rename_i ccl cdd vs ccs hcd
            split at ed
            · rename_i f tf hv
              exact ⟨_, _, vs, _, f, tf, hcd, hv, ed⟩
            · cases ed
          · cases ed
        · rw [mroIn_of m]
          simp
        · show PySem.W.mroIn K (ga K x) (.type "ValueError") = _
          rw [mroIn_of m]
          rfl
        · have f := List.all_eq_true.mp (h.says.fact 1 rfl) "super" (by decide +kernel)
          exact eqO_ok f
      · cases e7
    | _ => cases c2
/-! ### Frac -/
abbrev fC (K : PySem.W.Frag) : Addr := ga K "Frac"
structure FF (K : PySem.W.Frag) : Prop where
  cls : Cls K (fC K)
  mkr : Mk K (fC K) (ma K (fC K) "__init__")
  own : OwnC K (fC K)
  meth : ∀ m ∈ methN, Meth K (fC K) m (ma K (fC K) m)
  no : ∀ f ∈ noN, NoAttr K (fC K) f
  stat : ∀ m ∈ statN, Stat K (fC K) m (sa K (fC K) m)
  kI : PySem.W.kitOne K (.type "int") (.ref (fC K)) = some false
  kB : PySem.W.kitOne K (.type "bool") (.ref (fC K)) = some false
  kS : PySem.W.kitOne K (.type "str") (.ref (fC K)) = some false
  kF : PySem.W.kitOne K (.ref (fC K)) (.ref (fC K)) = some true
  kFI : PySem.W.kitOne K (.ref (fC K)) (.type "int") = some false
  kFB : PySem.W.kitOne K (.ref (fC K)) (.type "bool") = some false
  kFL : PySem.W.kitOne K (.ref (fC K)) (.type "list") = some false
  kFT : PySem.W.kitOne K (.ref (fC K)) (.type "tuple") = some false
  tyX : ∀ {H : Hp} {a dx : Addr} {fs : List (Str × V)}, H a = some (.ins (fC K) dx fs) → TyX K H (.ref a) (.ref (fC K))
theorem stat_ok (hr : PySem.W.readsIn K (fC K) (.type "type") = true) (hg : PySem.W.specialIn K (.ref (fC K)) "__getattribute__" = some (some (.builtin "type.__getattribute__"))) {m : Str} (h : statB K (fC K) m = true) : Stat K (fC K) m (sa K (fC K) m) := by
  unfold statB at h
  split at h
  · rename_i p hp
    obtain ⟨h1, h2⟩ := ba h
    split at h1
    · rename_i g a o t hf
      simp only [Bool.and_eq_true, decide_eq_true_eq] at h1
      obtain ⟨e1, e2, e3, e4⟩ := h1
      subst e1 e2 e3 e4
      split at h2
      · rename_i g rest hrec
        have es : sa K (fC K) m = g := by
          unfold sa
          rw [hp]
          show (match PySem.W.recIn K p "staticmethod" with | some (.ref g :: _) => g | _ => 0) = g
          rw [hrec]
        rw [es]
        exact ⟨hr, hg, ⟨p, hf, rest, hrec⟩, h2⟩
      · cases h2
    · cases h1
  · cases h
theorem HK.ff (h : HK K mg) : FF K := by
  have e := h.says.fact 5 rfl
  have gg := h.gen
  unfold fracB at e
  unfold genB at gg
  simp only [Bool.and_eq_true, decide_eq_true_eq, List.all_eq_true] at e gg
  obtain ⟨e0, e1, e2, e3, e4, e5, e6, e7, e8, e9, e10, e11, e12, e13, e14, e15, e16, e17, e18, e19, e20⟩ := e
  obtain ⟨g1, g2, g3, g4, g5, g6⟩ := gg
  exact ⟨cls_ok e1, mkr_ok e2, ⟨e3, e4, e5, e6, e7⟩, fun m hm => meth_ok (e10 m hm), fun f hf => noat_ok (e11 f hf), fun m hm => stat_ok e8 e9 (e12 m hm), e13, e14, e15, e16, e17, e18, e19, e20,
    fun {H a dx fs} ea => .base (.ins ea (cls_ok e1) e0 g1 g2 e7)⟩
end
end K0
/-! calls in short; a wide division -/
namespace K0
open PySem PySem.Spec PyProof.Rows L2 He HX
/-- // by a divisor that is not 0, below 2 ^ 9000 in size -/
def CDivX (_ j : Int) : Prop := j ≠ 0 ∧ j.natAbs.log2 < 9000
theorem op_fdivX {X : Cx} : OpR X (binaryOp .FloorDiv) (rI CDivX fun i j => .int (i.fdiv j)) := opI fun i j _ _ _ _ _ hc q =>
  floordiv_int hc.1 q (.inl (PyProof.noPylong_of_log2 hc.2))
/-- a def of the module, as it is called -/
structure Cal (P : Program) (w : World) (K : PySem.W.Frag) (mg : Str → Option Value) (base : Heap) (k : Nat) (x : Str) (ps : List Str) (sp : Sp) : Prop where
  ok : FnOk P w K mg base (L2.CX P w) k (ga K x) (fdA K (ga K x)) ps sp
  at_ : mg x = some (.ref (ga K x))
  kp : PySem.W.keepIn K (.ref (ga K x)) = true
  b : Binds K (fdA K (ga K x)) ps []
/-- a method of a class -/
structure CalM (P : Program) (w : World) (K : PySem.W.Frag) (mg : Str → Option Value) (base : Heap) (k : Nat) (C : Addr) (m : Str) (ps : List Str) (sp : Sp) : Prop where
  ok : FnOk P w K mg base (L2.CX P w) k (ma K C m) (fdA K (ma K C m)) ps sp
  cl : Cls K C
  mt : Meth K C m (ma K C m)
  b : Binds K (fdA K (ma K C m)) ps []
/-- a static method of Frac -/
structure CalS (P : Program) (w : World) (K : PySem.W.Frag) (mg : Str → Option Value) (base : Heap) (k : Nat) (x m : Str) (ps : List Str) (sp : Sp) : Prop where
  ok : FnOk P w K mg base (L2.CX P w) k (sa K (ga K x) m) (fdA K (sa K (ga K x) m)) ps sp
  at_ : mg x = some (.ref (ga K x))
  st : Stat K (ga K x) m (sa K (ga K x) m)
  b : Binds K (fdA K (sa K (ga K x) m)) ps []
/-- a def that also runs while an error is handled -/
structure CalW (P : Program) (w : World) (K : PySem.W.Frag) (mg : Str → Option Value) (base : Heap) (k : Nat) (x : Str) (ps : List Str) (sp : Sp) : Prop where
  ok : FnW P w K mg base (L2.CX P w) k (ga K x) (fdA K (ga K x)) ps sp
  at_ : mg x = some (.ref (ga K x))
  kp : PySem.W.keepIn K (.ref (ga K x)) = true
  b : Binds K (fdA K (ga K x)) ps []
theorem CalW.cal {P : Program} {w : World} {K : PySem.W.Frag} {mg : Str → Option Value} {base : Heap} {k : Nat} {x : Str} {ps : List Str} {sp : Sp} (c : CalW P w K mg base k x ps sp) : Cal P w K mg base k x ps sp := ⟨c.ok.ok, c.at_, c.kp, c.b⟩
/-- an error class: how C(..) is made -/
structure CalX (P : Program) (w : World) (K : PySem.W.Frag) (mg : Str → Option Value) (base : Heap) (k : Nat) (x : Str) (ps : List Str) (sp : Sp) : Prop where
  ok : FnOk P w K mg base (L2.CX P w) k (ma K (ga K x) "__init__") (fdA K (ma K (ga K x) "__init__")) ps sp
  at_ : mg x = some (.ref (ga K x))
  ef : EF K x
  b : Binds K (fdA K (ma K (ga K x) "__init__")) ps []
section
variable {X : Cx} {k n : Nat} {x m : Str} {ps : List Str} {sp : Sp} {E : XK} {p pos apos : Pos} {e o : Expr} {es : List Expr} {t : TA} {to : TE}
theorem pe_cal (C : Cal X.prog X.w X.K X.mg X.base k x ps sp) (hr : Room n X.A) (hx : Passes (L2.CX X.prog X.w) X E) (ha : PA X (e :: es) t) (hkn : k ≤ n := by decide) (hg : Gl X x := by rfl) (hdb : (x == ("__debug__" : Str)) = false := by decide)
    (he : starEach (e :: es) X.env = (false, eval e X.env) :: starEach es X.env := by rfl) (hpl : (backTo pos (starEach es X.env)).any (·.1) = false := by rfl) : PE X (.Call (.Name x p) (e :: es) [] pos) (tCall sp [] E t) :=
  pe_call C.ok (hr.mono hkn) hg C.at_ C.kp C.b .nil hx ha hdb he hpl
theorem pe_calM (C : CalM X.prog X.w X.K X.mg X.base k (fC X.K) m ps sp) (hr : Room n X.A) (hx : Passes (L2.CX X.prog X.w) X E) (ho : PE X o to) (ha : PA X (e :: es) t) {pl : Sem Bool} (hkn : k ≤ n := by decide)
    (hst : starEach (e :: es) X.env = (false, eval e X.env) :: starEach es X.env := by rfl) (hpl : (backTo pos (starEach es X.env)).any (·.1) = false := by rfl)
    (ht : eval (.Call (.Attribute o m apos) (e :: es) [] pos) X.env = (do
      let ov ← eval o X.env
      standAt apos.atName
      let (f, first) ← holding [ov] (getMethod ov m pl)
      callWith pos f first (backTo pos (starEach (e :: es) X.env)) (backToKw pos (keywordEach [] X.env))) := by rfl) : PE X (.Call (.Attribute o m apos) (e :: es) [] pos) (tMeth (fC X.K) m sp [] E to t) :=
  pe_meth ho C.cl C.mt C.ok (hr.mono hkn) C.b .nil hx ha hst hpl ht
theorem pe_calM0 (C : CalM X.prog X.w X.K X.mg X.base k (fC X.K) m ps sp) (hr : Room n X.A) (hx : Passes (L2.CX X.prog X.w) X E) (ho : PE X o to) {pl : Sem Bool} (hkn : k ≤ n := by decide)
    (ht : eval (.Call (.Attribute o m apos) [] [] pos) X.env = (do
      let ov ← eval o X.env
      standAt apos.atName
      let (f, first) ← holding [ov] (getMethod ov m pl)
      callWith pos f first (backTo pos (starEach [] X.env)) (backToKw pos (keywordEach [] X.env))) := by rfl) : PE X (.Call (.Attribute o m apos) [] [] pos) (tMeth (fC X.K) m sp [] E to tNil) :=
  pe_meth0 ho C.cl C.mt C.ok (hr.mono hkn) C.b .nil hx ht
theorem pe_calS (C : CalS X.prog X.w X.K X.mg X.base k x m ps sp) (hr : Room n X.A) (hx : Passes (L2.CX X.prog X.w) X E) (ha : PA X (e :: es) t) {pl : Sem Bool} (hkn : k ≤ n := by decide) (hg : Gl X x := by rfl) (hdb : (x == ("__debug__" : Str)) = false := by decide)
    (hst : starEach (e :: es) X.env = (false, eval e X.env) :: starEach es X.env := by rfl) (hpl : (backTo pos (starEach es X.env)).any (·.1) = false := by rfl)
    (ht : eval (.Call (.Attribute (.Name x p) m apos) (e :: es) [] pos) X.env = (do
      let ov ← eval (.Name x p) X.env
      standAt apos.atName
      let (f, first) ← holding [ov] (getMethod ov m pl)
      callWith pos f first (backTo pos (starEach (e :: es) X.env)) (backToKw pos (keywordEach [] X.env))) := by rfl) : PE X (.Call (.Attribute (.Name x p) m apos) (e :: es) [] pos) (tCall sp [] E t) :=
  pe_stat C.st C.at_ C.ok (hr.mono hkn) C.b hx ha hg hdb hst hpl ht
theorem pe_calW (C : CalW X.prog X.w X.K X.mg X.base k x ps sp) (hr : L2H.RoomH n X.A) (hx : Passes (L2.CX X.prog X.w) X E) (ha : PA X (e :: es) t) (hkn : k ≤ n := by decide) (hg : Gl X x := by rfl) (hdb : (x == ("__debug__" : Str)) = false := by decide)
    (he : starEach (e :: es) X.env = (false, eval e X.env) :: starEach es X.env := by rfl) (hpl : (backTo pos (starEach es X.env)).any (·.1) = false := by rfl) : PE X (.Call (.Name x p) (e :: es) [] pos) (tCall sp [] E t) :=
  pe_callW C.ok (hr.mono hkn) C.at_ C.kp C.b hx ha hg hdb he hpl
theorem pe_calV (C : CalX X.prog X.w X.K X.mg X.base k x ps sp) (hr : Room n X.A) (ha : PA X (e :: es) t) (hkn : k + 1 ≤ n := by decide) (hg : Gl X x := by rfl) (hdb : (x == ("__debug__" : Str)) = false := by decide)
    (he : starEach (e :: es) X.env = (false, eval e X.env) :: starEach es X.env := by rfl) (hpl : (backTo pos (starEach es X.env)).any (·.1) = false := by rfl) : PE X (.Call (.Name x p) (e :: es) [] pos) (tMkV (ga X.K x) sp t) :=
  pe_mkV C.ef.oex C.ef.iC C.ef.tI C.ok (hr.mono hkn) C.b passL C.at_ ha hg hdb he hpl
theorem pe_calV0 (C : CalX X.prog X.w X.K X.mg X.base k x ps sp) (hr : Room n X.A) (hkn : k + 1 ≤ n := by decide) (hg : Gl X x := by rfl) (hdb : (x == ("__debug__" : Str)) = false := by decide) : PE X (.Call (.Name x p) [] [] pos) (tMkV (ga X.K x) sp tNil) :=
  pe_mkV0 C.ef.oex C.ef.iC C.ef.tI C.ok (hr.mono hkn) C.b passL C.at_ hg hdb
theorem pmk_cal (C : CalX X.prog X.w X.K X.mg X.base k x ps sp) (hr : Room n X.A) (ha : PA X (e :: es) t) (hkn : k + 1 ≤ n := by decide) (hg : Gl X x := by rfl) (hdb : (x == ("__debug__" : Str)) = false := by decide)
    (he : starEach (e :: es) X.env = (false, eval e X.env) :: starEach es X.env := by rfl) (hpl : (backTo pos (starEach es X.env)).any (·.1) = false := by rfl) : PMk X (.Call (.Name x p) (e :: es) [] pos) (tMkX (ga X.K x) sp t) :=
  pmk_x C.ef.oex C.ef.iC C.ef.tI C.ok (hr.mono hkn) C.b passL C.at_ ha hg hdb he hpl
theorem pmk_cal0 (C : CalX X.prog X.w X.K X.mg X.base k x ps sp) (hr : Room n X.A) (hkn : k + 1 ≤ n := by decide) (hg : Gl X x := by rfl) (hdb : (x == ("__debug__" : Str)) = false := by decide) : PMk X (.Call (.Name x p) [] [] pos) (tMkX (ga X.K x) sp tNil) :=
  pmk_x0 C.ef.oex C.ef.iC C.ef.tI C.ok (hr.mono hkn) C.b passL C.at_ hg hdb
end
/-- errors of a call in a try's body -/
def EL (W : WX) (n : Nat) : XK := fun cls d H => ∀ σ : L2.St, σ.length = n → W cls d σ H
theorem passLen {X : Cx} {W : WX} (tk : Takes X W) : Passes (L2.CX X.prog X.w) X (EL W X.N.length) := fun _ σ _ _ e s' I c => tk e s' (XE.of_call I (fun _ _ _ h => h σ I.len) c)
section
variable {P : Program} {w : World} {K : PySem.W.Frag} {mg : Str → Option Value} {base : Heap}
theorem cal_mk {k : Nat} {x : Str} {ps : List Str} {sp : Sp} {pa : Arguments} {bd : List Stmt} {sc : Scope} (F : FunD K x x pa bd sc [] [] (ga K x) (fdA K (ga K x))) (hm : mg x = some (.ref (ga K x))) (ok : FnOk P w K mg base (L2.CX P w) k (ga K x) (fdA K (ga K x)) ps sp)
    (hb : ∀ (kV doc pm : Value) (an : Option Addr) (cdv ct : Value) (us : List Value), us.length = ps.length → bindArgs (PySem.W.fnOf x x pa bd sc .none kV doc pm an cdv ct) ⟨us, []⟩ = pure (ps.zip us)) : Cal P w K mg base k x ps sp :=
  ⟨ok, hm, F.kp, F.bindsN hb⟩
/-- the rule for a def that may let an error out -/
theorem okX {CX : CXT} {x qual : Str} {N ps : List Str} {k : Nat} {sp : Sp} {pa : Arguments} {bd : List Stmt} {sc : Scope} {dvs : List V} {f : Addr} {fd : FuncData} (F : FunD K x qual pa bd sc dvs [] f fd) (S : FnScope N ps sc) (len : ∀ vs H Q E, sp vs H Q E → vs.length = ps.length)
    (hbody : ∀ (cdv : Value) (A : Around) (outer : List Env) (s : Shared) (H : Hp) (vs : List V) (Q : VK) (E : XK), Room k (A.deeper (envOfC qual sc s.heap.objs.size f cdv)) → sp vs H Q E →
      ∃ t, PSs (cxOf CX P w K mg base N qual sc f cdv A outer s H E) bd t ∧ t { nx := fun _ H' => Q .non H', rt := Q } (L2.start N vs) H) : FnOk P w K mg base CX (k + 1) f fd ps sp := F.ok S len hbody
end
end K0
/-! what each def of k00 promises -/
namespace K0
open PySem PySem.Spec PyProof.Rows L2 He HX KF
/-- a fraction stands at a -/
def FracAt (K : PySem.W.Frag) (H : Hp) (a : Addr) (n d : Int) : Prop := ∃ dx, H a = some (.ins (fC K) dx [("num", .int n), ("den", .int d)])
/-- v is a whole number, or a fraction: n / d -/
def Num (K : PySem.W.Frag) (H : Hp) (v : V) (n d : Int) : Prop := (v = .int n ∧ d = 1) ∨ ∃ a, v = .ref a ∧ FracAt K H a n d
theorem FracAt.same {K : PySem.W.Frag} {H H' : Hp} {a : Addr} {n d : Int} (e : Same H H') (h : FracAt K H a n d) : FracAt K H' a n d := by
  obtain ⟨dx, h⟩ := h
  exact ⟨dx, e _ _ h⟩
theorem Num.same {K : PySem.W.Frag} {H H' : Hp} {v : V} {n d : Int} (e : Same H H') (h : Num K H v n d) : Num K H' v n d := by
  rcases h with h | ⟨a, h1, h2⟩
  · exact .inl h
  · exact .inr ⟨a, h1, h2.same e⟩
theorem same_upd {H : Hp} {a : Addr} {o : HO} (h : H a = none) : Same H (upd H a o) := fun b u q => by
  rw [upd_ne (ne_of_none q h)]
  exact q
theorem _root_.L2.Same.tup {K : PySem.W.Frag} {H H' : Hp} {a : Addr} {xs : List V} (e : Same H H') (h : SqT K H a xs) : SqT K H' a xs := by
  rcases h with (h | ⟨o, h⟩) | h
  · exact .inl (.inl (e _ _ h))
  · exact .inl (.inr ⟨o, e _ _ h⟩)
  · exact .inr h
def Sm (n : Int) : Prop := n.natAbs < 2 ^ 400
def SmW (n : Int) : Prop := n.natAbs < 2 ^ 900
def Rt (n d : Int) : Prop := 0 < d ∧ Sm n ∧ Sm d
/-! ### bounds -/
def Bd (k : Nat) (n : Int) : Prop := n.natAbs < 2 ^ k
theorem Bd.mul {a b : Nat} {i j : Int} (h : Bd a i) (h' : Bd b j) : Bd (a + b) (i * j) := wide_lt h h'
theorem Bd.mono {a b : Nat} {i : Int} (h : Bd a i) (hab : a ≤ b) : Bd b i := Nat.lt_of_lt_of_le h (Nat.pow_le_pow_right (by decide) hab)
theorem Bd.add {a : Nat} {i j : Int} (h : Bd a i) (h' : Bd a j) : Bd (a + 1) (i + j) := by
  unfold Bd at *
  have : (2 : Nat) ^ (a + 1) = 2 * 2 ^ a := by rw [Nat.pow_succ, Nat.mul_comm]
  omega
theorem Bd.sub {a : Nat} {i j : Int} (h : Bd a i) (h' : Bd a j) : Bd (a + 1) (i - j) := by
  unfold Bd at *
  have : (2 : Nat) ^ (a + 1) = 2 * 2 ^ a := by rw [Nat.pow_succ, Nat.mul_comm]
  omega
theorem Bd.neg {a : Nat} {i : Int} (h : Bd a i) : Bd a (-i) := by
  unfold Bd at *
  omega
theorem Bd.le {a : Nat} {i j : Int} (h : Bd a j) (hij : i.natAbs ≤ j.natAbs) : Bd a i := Nat.lt_of_le_of_lt hij h
theorem Bd.mulW {a b : Nat} {i j : Int} (h : Bd a i) (h' : Bd b j) (ha : 0 < a := by decide) (hb : 0 < b := by decide) (hs : a + b ≤ 1000000 := by decide) : CMulW i j := wide_mul h h' ha hb hs
theorem Bd.divX {a : Nat} {i j : Int} (h : Bd a j) (h0 : j ≠ 0) (ha : 0 < a := by decide) (hs : a ≤ 9000 := by decide) : CDivX i j := ⟨h0, Nat.lt_of_lt_of_le (PySem.Flt.log2_lt_of ha h) hs⟩
theorem Bd.lowN {k : Nat} {a b : Int} (h : Bd k a) (hb : b ≠ 0) : Bd k (lowN a b) := h.le (natAbs_lowN_le a b hb)
theorem Bd.lowD {k : Nat} {a b : Int} (h : Bd k b) (hb : b ≠ 0) : Bd k (lowD a b) := h.le (natAbs_lowD_le a b hb)
theorem Bd.gi {k : Nat} {a b : Int} (h : Bd k b) (hb : b ≠ 0) : Bd k (gi a b) := h.le (by
  have := Nat.gcd_le_right a.natAbs (show 0 < b.natAbs by omega)
  show ((Int.gcd a b : Nat) : Int).natAbs ≤ _
  rw [Int.natAbs_natCast]
  exact this)
theorem Bd.gs {k : Nat} {a b : Int} (h : Bd k b) (hb : b ≠ 0) : Bd k (gs a b) := by
  have := Bd.gi (a := a) h hb
  unfold KF.gs
  split
  · exact this.neg
  · exact this
theorem gi_abs (a b : Int) : gi (if a < 0 then -a else a) (if b < 0 then -b else b) = gi a b := by
  unfold gi Int.gcd
  have e : ∀ x : Int, (if x < 0 then -x else x).natAbs = x.natAbs := fun x => by split <;> omega
  rw [e, e]
theorem gi_zero {a : Int} (h : 0 ≤ a) : gi a 0 = a := by
  unfold gi Int.gcd
  simp
  omega
theorem gi_step {x y : Int} (hx : 0 ≤ x) (hy : 0 < y) : gi y (x.fmod y) = gi x y := by
  rw [Int.fmod_eq_emod_of_nonneg x (by omega)]
  unfold gi
  rw [Int.gcd_comm x y]
  congr 1
  show Int.gcd y (x % y) = Int.gcd y x
  unfold Int.gcd
  have : (x % y).natAbs = x.natAbs % y.natAbs := by
    obtain ⟨m, rfl⟩ := Int.eq_ofNat_of_zero_le hx
    obtain ⟨n, rfl⟩ := Int.eq_ofNat_of_zero_le (Int.le_of_lt hy)
    simp only [Int.natAbs_natCast]
    omega
  rw [this, Nat.gcd_comm, ← Nat.gcd_rec]
theorem fmod_rng {x y : Int} (hy : 0 < y) : 0 ≤ x.fmod y ∧ x.fmod y < y := by
  rw [Int.fmod_eq_emod_of_nonneg x (by omega)]
  exact ⟨Int.emod_nonneg x (by omega), Int.emod_lt_of_pos x hy⟩
theorem natAbs_fdiv_le (a : Int) {b : Int} (hb : b ≠ 0) : (a.fdiv b).natAbs ≤ a.natAbs := by
  have h1 := Int.mul_fdiv_add_fmod a b
  have key : ∀ a b : Int, 0 < b → (a.fdiv b).natAbs ≤ a.natAbs := fun a b hb => by
    rw [Int.fdiv_eq_ediv_of_nonneg a (by omega)]
    have e := Int.mul_ediv_add_emod a b
    have r1 := Int.emod_nonneg a (show b ≠ 0 by omega)
    have r2 := Int.emod_lt_of_pos a hb
    generalize a / b = q at *
    generalize a % b = r at *
    rcases Int.lt_trichotomy q 0 with hq | hq | hq
    · have : b * q ≤ q := by
        have := Int.mul_le_mul_of_nonpos_right (show (1 : Int) ≤ b by omega) (show q ≤ 0 by omega)
        omega
      have : b * q + r < 0 := by
        have : b * q ≤ b * (-1) := Int.mul_le_mul_of_nonneg_left (by omega) (by omega)
        omega
      have : b * (q + 1) ≤ q + 1 := by
        have := Int.mul_le_mul_of_nonpos_right (show (1 : Int) ≤ b by omega) (show q + 1 ≤ 0 by omega)
        omega
      have : b * (q + 1) = b * q + b := by rw [Int.mul_add, Int.mul_one]
      omega
    · omega
    · have : q ≤ b * q := by
        have := Int.mul_le_mul_of_nonneg_right (show (1 : Int) ≤ b by omega) (show 0 ≤ q by omega)
        omega
      omega
  rcases Int.lt_trichotomy b 0 with h | h | h
  · have := key (-a) (-b) (by omega)
    rw [Int.neg_fdiv_neg] at this
    omega
  · exact absurd h hb
  · exact key a b h
/-! ### the promises -/
def sp_common_divisor (K : PySem.W.Frag) : Sp := fun vs H Q _ => ∃ a b : Int, vs = [.int a, .int b] ∧ Q (.int (gi a b)) H
abbrev sp__law_common := sp_common_divisor
def sp_num_den (K : PySem.W.Frag) : Sp := fun vs H Q _ => ∃ (v : V) (n d : Int), vs = [v] ∧ Num K H v n d ∧ ∀ q, H q = none → Q (.ref q) (upd H q (.tup [.int n, .int d]))
def sp_init (K : PySem.W.Frag) : Sp := fun vs H Q E => ∃ (x dx : Addr) (n d : Int), vs = [.ref x, .int n, .int d] ∧ H x = some (.ins (fC K) dx []) ∧ Bd 1000 d ∧
  (d ≠ 0 → Q .non (upd H x (.ins (fC K) dx [("num", .int (lowN n d)), ("den", .int (lowD n d))]))) ∧ (d = 0 → E (.ref (ga K "DivisionByZero")) none H)
structure CalF (P : Program) (w : World) (K : PySem.W.Frag) (mg : Str → Option Value) (base : Heap) : Prop where
  ok : FnOk P w K mg base (L2.CX P w) 3 (ma K (fC K) "__init__") (fdA K (ma K (fC K) "__init__")) ["self", "num", "den"] (sp_init K)
  at_ : mg "Frac" = some (.ref (fC K))
  mk_ : Mk K (fC K) (ma K (fC K) "__init__")
  b2 : Binds K (fdA K (ma K (fC K) "__init__")) ["self", "num", "den"] []
  b1 : ∃ ds, Vals [V.int 1] ds ∧ Binds K (fdA K (ma K (fC K) "__init__")) ["self", "num", "den"] ds
  b0 : ∃ ds, Vals [V.int 0, V.int 1] ds ∧ Binds K (fdA K (ma K (fC K) "__init__")) ["self", "num", "den"] ds
section
variable {X : Cx} {n : Nat} {E : XK} {p pos : Pos} {e e2 : Expr} {t : TA}
theorem pe_frac2 (C : CalF X.prog X.w X.K X.mg X.base) (hr : Room n X.A) (hx : Passes (L2.CX X.prog X.w) X E) (ha : PA X [e, e2] t) (hkn : 4 ≤ n := by decide) (hg : Gl X "Frac" := by rfl)
    (he : starEach [e, e2] X.env = (false, eval e X.env) :: starEach [e2] X.env := by rfl) (hpl : (backTo pos (starEach [e2] X.env)).any (·.1) = false := by rfl) : PE X (.Call (.Name "Frac" p) [e, e2] [] pos) (tMake (fC X.K) (sp_init X.K) [] E t) :=
  pe_make C.mk_ C.ok (hr.mono hkn) hg C.at_ C.b2 .nil hx ha (by decide) he hpl
theorem pe_frac1 (C : CalF X.prog X.w X.K X.mg X.base) (hr : Room n X.A) (hx : Passes (L2.CX X.prog X.w) X E) (ha : PA X [e] t) (hkn : 4 ≤ n := by decide) (hg : Gl X "Frac" := by rfl)
    (he : starEach [e] X.env = (false, eval e X.env) :: starEach [] X.env := by rfl) (hpl : (backTo pos (starEach [] X.env)).any (·.1) = false := by rfl) : PE X (.Call (.Name "Frac" p) [e] [] pos) (tMake (fC X.K) (sp_init X.K) [.int 1] E t) := by
  obtain ⟨ds, r, b⟩ := C.b1
  exact pe_make C.mk_ C.ok (hr.mono hkn) hg C.at_ b r hx ha (by decide) he hpl
theorem pe_frac0 (C : CalF X.prog X.w X.K X.mg X.base) (hr : Room n X.A) (hx : Passes (L2.CX X.prog X.w) X E) (hkn : 4 ≤ n := by decide) (hg : Gl X "Frac" := by rfl) : PE X (.Call (.Name "Frac" p) [] [] pos) (tMake (fC X.K) (sp_init X.K) [.int 0, .int 1] E tNil) := by
  obtain ⟨ds, r, b⟩ := C.b0
  exact pe_make0 C.mk_ C.ok (hr.mono hkn) hg C.at_ b r hx (by decide)
end
/-- the reading of Frac(n, d) -/
theorem mk_frac {K : PySem.W.Frag} {H : Hp} {Q : VK} {E : XK} {n d : Int} (hb : Bd 1000 d) (hd : d ≠ 0) (k : ∀ H' q, Same H H' → H q = none → FracAt K H' q (lowN n d) (lowD n d) → Q (.ref q) H') :
    ∀ x dx, H x = none → H dx = none → dx ≠ x → sp_init K [.ref x, .int n, .int d] (upd (upd H dx (.own x)) x (.ins (fC K) dx [])) (fun v H2 => v = .non ∧ Q (.ref x) H2) E := fun x dx nx nd ne =>
  ⟨x, dx, n, d, rfl, upd_same, hb, fun _ => ⟨rfl, by
    rw [upd_upd]
    refine k _ x (fun b o q => ?_) nx ⟨dx, upd_same⟩
    rw [upd_ne (ne_of_none q nx), upd_ne (ne_of_none q nd)]
    exact q⟩, fun z => absurd z hd⟩
theorem mk_frac0 {K : PySem.W.Frag} {H : Hp} {Q : VK} {E : XK} {n : Int} (k : ∀ H', Same H H' → E (.ref (ga K "DivisionByZero")) none H') :
    ∀ x dx, H x = none → H dx = none → dx ≠ x → sp_init K [.ref x, .int n, .int 0] (upd (upd H dx (.own x)) x (.ins (fC K) dx [])) (fun v H2 => v = .non ∧ Q (.ref x) H2) E := fun x dx nx nd ne =>
  ⟨x, dx, n, 0, rfl, upd_same, Nat.two_pow_pos _, fun z => absurd rfl z, fun _ => k _ (fun b o q => by
    rw [upd_ne (ne_of_none q nx), upd_ne (ne_of_none q nd)]
    exact q)⟩
/-! Frac(..) where it does not raise -/
def tFrac2 (K : PySem.W.Frag) (t : TA) : TE := fun σ H Q => t σ H fun vs H1 => ∃ n d : Int, vs = [.int n, .int d] ∧ d ≠ 0 ∧ Bd 1000 d ∧ ∀ H' q, Same H1 H' → H1 q = none → FracAt K H' q (lowN n d) (lowD n d) → Q (.ref q) H'
def tFrac1 (K : PySem.W.Frag) (t : TA) : TE := fun σ H Q => t σ H fun vs H1 => ∃ n : Int, vs = [.int n] ∧ ∀ H' q, Same H1 H' → H1 q = none → FracAt K H' q n 1 → Q (.ref q) H'
def tFrac0 (K : PySem.W.Frag) : TE := fun σ H Q => ∀ H' q, Same H H' → H q = none → FracAt K H' q 0 1 → Q (.ref q) H'
section
variable {X : Cx} {n : Nat} {p pos : Pos} {e e2 : Expr} {t : TA}
theorem pe_fr2 (C : CalF X.prog X.w X.K X.mg X.base) (hr : Room n X.A) (ha : PA X [e, e2] t) (hkn : 4 ≤ n := by decide) (hg : Gl X "Frac" := by rfl)
    (he : starEach [e, e2] X.env = (false, eval e X.env) :: starEach [e2] X.env := by rfl) (hpl : (backTo pos (starEach [e2] X.env)).any (·.1) = false := by rfl) : PE X (.Call (.Name "Frac" p) [e, e2] [] pos) (tFrac2 X.K t) := by
  refine ⟨fun pins s σ H Q I h => ?_⟩
  refine wpAny_Call_Name_kw (ld_glob I hg C.at_ ?_ (by decide))
  refine PySem.W.callWith_K (h₀ := X.base) I.ok.mod.kin C.mk_.kp (thn (ha.run pos pins s σ H _ I h) fun us s1 ⟨vs, H1, I1, r, q⟩ => ⟨I1.kIn, ?_⟩) he hpl
  obtain ⟨n, d, rfl, h1, h2, h3⟩ := q
  exact run_make C.mk_ C.ok (hr.mono hkn) C.b2 .nil passL I1 r (mk_frac h2 h1 h3)
theorem pe_fr1 (C : CalF X.prog X.w X.K X.mg X.base) (hr : Room n X.A) (ha : PA X [e] t) (hkn : 4 ≤ n := by decide) (hg : Gl X "Frac" := by rfl)
    (he : starEach [e] X.env = (false, eval e X.env) :: starEach [] X.env := by rfl) (hpl : (backTo pos (starEach [] X.env)).any (·.1) = false := by rfl) : PE X (.Call (.Name "Frac" p) [e] [] pos) (tFrac1 X.K t) := by
  refine ⟨fun pins s σ H Q I h => ?_⟩
  refine wpAny_Call_Name_kw (ld_glob I hg C.at_ ?_ (by decide))
  refine PySem.W.callWith_K (h₀ := X.base) I.ok.mod.kin C.mk_.kp (thn (ha.run pos pins s σ H _ I h) fun us s1 ⟨vs, H1, I1, r, q⟩ => ⟨I1.kIn, ?_⟩) he hpl
  obtain ⟨n, rfl, h3⟩ := q
  obtain ⟨ds, rd, b⟩ := C.b1
  exact run_make C.mk_ C.ok (hr.mono hkn) b rd passL I1 r (mk_frac (n := n) (d := 1) (Nat.one_lt_two_pow (by decide)) (by decide) fun H' q s n1 f => h3 H' q s n1 (by
    rw [(low_one n).1, (low_one n).2] at f
    exact f))
theorem pe_fr0 (C : CalF X.prog X.w X.K X.mg X.base) (hr : Room n X.A) (hkn : 4 ≤ n := by decide) (hg : Gl X "Frac" := by rfl) : PE X (.Call (.Name "Frac" p) [] [] pos) (tFrac0 X.K) := by
  refine ⟨fun pins s σ H Q I h => ?_⟩
  refine wpAny_Call_Name_kw (ld_glob I hg C.at_ ?_ (by decide))
  obtain ⟨ds, rd, b⟩ := C.b0
  refine PySem.W.callWith_K0 I.kIn C.mk_.kp (run_make (us := []) (vs := []) C.mk_ C.ok (hr.mono hkn) b rd passL I .nil (mk_frac (n := 0) (d := 1) (Nat.one_lt_two_pow (by decide)) (by decide) fun H' q s n1 f => h H' q s n1 (by
    rw [(low_one 0).1, (low_one 0).2] at f
    exact f)))
end
/-- two numbers in, a fraction out -/
def spBin (K : PySem.W.Frag) (f g : Int → Int → Int → Int → Int) : Sp := fun vs H Q _ => ∃ (a : Addr) (y : V) (n d m e : Int), vs = [.ref a, y] ∧ FracAt K H a n d ∧ Num K H y m e ∧ Rt n d ∧ Rt m e ∧
  ∀ H' q, Same H H' → FracAt K H' q (lowN (f n d m e) (g n d m e)) (lowD (f n d m e) (g n d m e)) → Q (.ref q) H'
def sp_Fracd_addd (K : PySem.W.Frag) : Sp := spBin K (fun n d m e => n * e + m * d) (fun _ d _ e => d * e)
def sp_Fracd_subd (K : PySem.W.Frag) : Sp := spBin K (fun n d m e => n * e - m * d) (fun _ d _ e => d * e)
def sp_Fracd_muld (K : PySem.W.Frag) : Sp := spBin K (fun n _ m _ => n * m) (fun _ d _ e => d * e)
def spDiv (K : PySem.W.Frag) (R : Hp → Int → Int → Int → Int → VK → Prop) : Sp := fun vs H Q E => ∃ (a : Addr) (y : V) (n d m e : Int), vs = [.ref a, y] ∧ FracAt K H a n d ∧ Num K H y m e ∧ Rt n d ∧ Rt m e ∧
  (m ≠ 0 → R H n d m e Q) ∧ (m = 0 → ∀ H', Same H H' → E (.ref (ga K "DivisionByZero")) none H')
def sp_Fracd_floordivd (K : PySem.W.Frag) : Sp := spDiv K fun H n d m e Q => ∀ H', Same H H' → Q (.int ((n * e).fdiv (d * m))) H'
def sp_Fracd_modd (K : PySem.W.Frag) : Sp := spDiv K fun H n d m e Q => ∀ H' q, Same H H' → FracAt K H' q (lowN (n * e - m * d * ((n * e).fdiv (d * m))) (d * e)) (lowD (n * e - m * d * ((n * e).fdiv (d * m))) (d * e)) → Q (.ref q) H'
def sp_Frac_over (K : PySem.W.Frag) : Sp := spDiv K fun H n d m e Q => ∀ H' q, Same H H' → FracAt K H' q (lowN (n * e) (d * m)) (lowD (n * e) (d * m)) → Q (.ref q) H'
def spUn (K : PySem.W.Frag) (f : Int → Int → Int) : Sp := fun vs H Q _ => ∃ (a : Addr) (n d : Int), vs = [.ref a] ∧ FracAt K H a n d ∧ Rt n d ∧ ∀ H' q, Same H H' → FracAt K H' q (lowN (f n d) d) (lowD (f n d) d) → Q (.ref q) H'
def sp_Fracd_negd (K : PySem.W.Frag) : Sp := spUn K fun n _ => -n
def sp_Fracd_absd (K : PySem.W.Frag) : Sp := spUn K fun n _ => if n < 0 then -n else n
def sp_Frac_rest (K : PySem.W.Frag) : Sp := spUn K fun n d => n.fmod d
def sp_Fracd_boold (K : PySem.W.Frag) : Sp := fun vs H Q _ => ∃ (a : Addr) (n d : Int), vs = [.ref a] ∧ FracAt K H a n d ∧ Q (.bl (n != 0)) H
def sp_Frac_floor (K : PySem.W.Frag) : Sp := fun vs H Q _ => ∃ (a : Addr) (n d : Int), vs = [.ref a] ∧ FracAt K H a n d ∧ Rt n d ∧ Q (.int (n.fdiv d)) H
def sp_Frac_compare (K : PySem.W.Frag) : Sp := fun vs H Q _ => ∃ (a : Addr) (y : V) (n d m e : Int), vs = [.ref a, y] ∧ FracAt K H a n d ∧ Num K H y m e ∧ Rt n d ∧ Rt m e ∧
  ∀ H', Same H H' → Q (.int (if n * e < m * d then -1 else if m * d < n * e then 1 else 0)) H'
/-- what == answers -/
def EqB (K : PySem.W.Frag) (H : Hp) (n d : Int) (y : V) (b : Bool) : Prop := (∃ i, y = .int i ∧ b = false) ∨ (∃ z, y = .str z ∧ b = false) ∨ ∃ a m e, y = .ref a ∧ FracAt K H a m e ∧ b = decide (n = m ∧ d = e)
def sp_Fracd_eqd (K : PySem.W.Frag) : Sp := fun vs H Q _ => ∃ (a : Addr) (n d : Int) (y : V) (b : Bool), vs = [.ref a, y] ∧ FracAt K H a n d ∧ EqB K H n d y b ∧ Q (.bl b) H
def txt (n d : Int) : Str := if d = 1 then Str.ofString (toString n) else Str.ofString (toString n) ++ Str.ofString "/" ++ Str.ofString (toString d)
def sp_digits_of (K : PySem.W.Frag) : Sp := fun vs H Q _ => ∃ n : Int, vs = [.int n] ∧ Bd 45 n ∧ ∀ H', Same H H' → Q (.str (Str.ofString (toString n))) H'
def sp_Fracd_strd (K : PySem.W.Frag) : Sp := fun vs H Q _ => ∃ (a : Addr) (n d : Int), vs = [.ref a] ∧ FracAt K H a n d ∧ Bd 45 n ∧ Bd 45 d ∧ ∀ H', Same H H' → Q (.str (txt n d)) H'
def sp_Frac_of (K : PySem.W.Frag) : Sp := fun vs H Q _ => ∃ (v : V) (n d : Int), vs = [v] ∧ Num K H v n d ∧ ∀ H' q, Same H H' → FracAt K H' q n d → Q (.ref q) H'
/-! sums -/
def sumF : Int × Int → List (Int × Int) → Int × Int
  | a, [] => a
  | a, x :: r => sumF (a.1 * x.2 + x.1 * a.2, a.2 * x.2) r
/-- the values xs are the numbers rs, small ones -/
def Nums (K : PySem.W.Frag) (H : Hp) : List V → List (Int × Int) → Prop
  | [], [] => True
  | x :: xs, r :: rs => Num K H x r.1 r.2 ∧ 0 < r.2 ∧ Bd 45 r.1 ∧ Bd 45 r.2 ∧ Nums K H xs rs
  | _, _ => False
def SqX (K : PySem.W.Frag) (H : Hp) (l : Addr) (xs : List V) : Prop := SqL K H l xs ∨ SqT K H l xs
def sp_to_wholes (K : PySem.W.Frag) : Sp := fun vs H Q _ => ∃ (l : Addr) (xs : List V) (rs : List (Int × Int)), vs = [.ref l] ∧ SqX K H l xs ∧ Nums K H xs rs ∧ xs.length ≤ 10 ∧
  ∀ (H' : Hp) (q lw : Addr) (D : Int) (ws : List Int), Same H H' → SqT K H' q [.ref lw, .int D] → H' lw = some (.lst (ws.map V.int)) → 0 < D → Bd 900 D → ws.sum * (sumF (0, 1) rs).2 = (sumF (0, 1) rs).1 * D → Q (.ref q) H'
def sp_Frac_sum_of (K : PySem.W.Frag) : Sp := fun vs H Q _ => ∃ (l : Addr) (xs : List V) (rs : List (Int × Int)), vs = [.ref l] ∧ SqX K H l xs ∧ Nums K H xs rs ∧ xs.length ≤ 10 ∧
  ∀ H' q, Same H H' → FracAt K H' q (lowN (sumF (0, 1) rs).1 (sumF (0, 1) rs).2) (lowD (sumF (0, 1) rs).1 (sumF (0, 1) rs).2) → Q (.ref q) H'
/-! the law's small defs -/
def sp__law_whole (K : PySem.W.Frag) : Sp := fun vs H Q _ => ∃ i : Int, vs = [.int i] ∧ Q (.bl true) H
def sp__law_truth (K : PySem.W.Frag) : Sp := fun vs H Q _ => ∃ a b : Bool, vs = [.bl a, .bl b] ∧ Q (.bl (decide (a = b))) H
/-- a tracked error of the class x, its fields fs -/
def ErrAt (K : PySem.W.Frag) (H : Hp) (a : Addr) (x : Str) (fs : List (Str × V)) : Prop := x ∈ errN ∧ ∃ d, ExAt H a (ga K x) d ∧ (d = none → fs = []) ∧ ∀ dd, d = some dd → XdAt H dd fs
def sp__law_ours (K : PySem.W.Frag) : Sp := fun vs H Q _ => ∃ (a : Addr) (x : Str) (fs : List (Str × V)), vs = [.ref a] ∧ ErrAt K H a x fs ∧ Q (.bl true) H
def sp__law_kinds (K : PySem.W.Frag) : Sp := fun vs H Q _ => ∃ (a : Addr) (x : Str) (fs : List (Str × V)), vs = [.ref a] ∧ ErrAt K H a x fs ∧ ∀ H', Same H H' → Q (.int 1) H'
def sp__law_low (K : PySem.W.Frag) : Sp := fun vs H Q _ => ∃ n d : Int, vs = [.int n, .int d] ∧ d ≠ 0 ∧ Bd 1000 d ∧ ∀ q, H q = none → Q (.ref q) (upd H q (.tup [.int (lowN n d), .int (lowD n d)]))
def sp__law_plus (K : PySem.W.Frag) : Sp := fun vs H Q _ => ∃ (a b : Addr) (n d m e : Int) (l l' : List V), vs = [.ref a, .ref b] ∧ SqT K H a (.int n :: .int d :: l) ∧ SqT K H b (.int m :: .int e :: l') ∧ d ≠ 0 ∧ e ≠ 0 ∧ Bd 480 n ∧ Bd 480 d ∧ Bd 480 m ∧ Bd 480 e ∧
  ∀ H' q, Same H H' → SqT K H' q [.int (lowN (n * e + m * d) (d * e)), .int (lowD (n * e + m * d) (d * e))] → Q (.ref q) H'
def sp__law_is (K : PySem.W.Frag) : Sp := fun vs H Q _ => ∃ (a : Addr) (n d : Int), vs = [.ref a, .int n, .int d] ∧ d ≠ 0 ∧ Bd 1000 d ∧ FracAt K H a (lowN n d) (lowD n d) ∧ ∀ H', Same H H' → Q (.bl true) H'
/-- the pool: a list of ints that is not empty -/
def PoolAt (H : Hp) (p : Addr) : Prop := ∃ xs : List Int, H p = some (.lst (xs.map V.int)) ∧ xs ≠ [] ∧ xs.length ≤ 64
/-- all but the pool is as it was; the pool is one again -/
def PoolTo (p : Addr) (H H' : Hp) : Prop := (∀ b o, b ≠ p → H b = some o → H' b = some o) ∧ PoolAt H' p
def sp__law_draw (K : PySem.W.Frag) : Sp := fun vs H Q _ => ∃ (p : Addr) (m : Int), vs = [.ref p, .int m] ∧ PoolAt H p ∧ 0 < m ∧ Bd 9000 m ∧ ∀ H' i, PoolTo p H H' → 0 ≤ i → i < m → Q (.int i) H'
def sp__law_cells (K : PySem.W.Frag) : Sp := fun vs H Q _ => ∃ (a : Addr) (ns : List Int), vs = [.ref a] ∧ SqL K H a (ns.map V.int) ∧ ∀ H' p, Same H H' → H p = none → PoolAt H' p → Q (.ref p) H'
def L12 (n : Int) : Prop := n.natAbs ≤ 10 ^ 12
/-- one number of the law: its tuple -/
def One (K : PySem.W.Frag) (H : Hp) (a : Addr) (n d : Int) (fl : Bool) : Prop := SqT K H a [.int n, .int d, .bl fl] ∧ d ≠ 0 ∧ L12 n ∧ L12 d ∧ (fl = true → d = 1)
theorem One.same {K : PySem.W.Frag} {H H' : Hp} {a : Addr} {n d : Int} {fl : Bool} (e : Same H H') (h : One K H a n d fl) : One K H' a n d fl := ⟨e.tup h.1, h.2⟩
def sp__law_number (K : PySem.W.Frag) : Sp := fun vs H Q _ => ∃ p : Addr, vs = [.ref p] ∧ PoolAt H p ∧ ∀ H' q n d fl, PoolTo p H H' → One K H' q n d fl → Q (.ref q) H'
def sp__law_twin (K : PySem.W.Frag) : Sp := fun vs H Q _ => ∃ (p a : Addr) (n d : Int) (fl : Bool), vs = [.ref p, .ref a] ∧ PoolAt H p ∧ One K H a n d fl ∧ ∀ H' q n' d' fl', PoolTo p H H' → One K H' q n' d' fl' → Q (.ref q) H'
/-- what a number of the law is made to -/
def Made (K : PySem.W.Frag) (H : Hp) (v : V) (n d : Int) (fl : Bool) : Prop := (fl = true → v = .int n) ∧ (fl = false → ∃ q, v = .ref q ∧ FracAt K H q (lowN n d) (lowD n d))
def sp__law_made (K : PySem.W.Frag) : Sp := fun vs H Q _ => ∃ (a : Addr) (n d : Int) (fl : Bool), vs = [.ref a] ∧ One K H a n d fl ∧ ∀ H' v, Same H H' → Made K H' v n d fl → Q v H'
def sp__law_still (K : PySem.W.Frag) : Sp := fun vs H Q _ => ∃ (v : V) (a : Addr) (n d : Int) (fl : Bool), vs = [v, .ref a] ∧ One K H a n d fl ∧ Made K H v n d fl ∧ ∀ H', Same H H' → Q (.bl true) H'
def sp__law_text (K : PySem.W.Frag) : Sp := fun vs H Q _ => ∃ (a : Addr) (n d : Int), vs = [.ref a] ∧ SqT K H a [.int n, .int d] ∧ Bd 45 n ∧ Bd 45 d ∧ Q (.str (txt n d)) H
def spOnes1 (K : PySem.W.Frag) : Sp := fun vs H Q _ => ∃ (a : Addr) (n d : Int) (fl : Bool), vs = [.ref a] ∧ One K H a n d fl ∧ ∀ H', Same H H' → Q (.bl true) H'
def sp__law_one (K : PySem.W.Frag) : Sp := spOnes1 K
def sp__law_two (K : PySem.W.Frag) : Sp := fun vs H Q _ => ∃ (a b : Addr) (n d m e : Int) (fl fm : Bool), vs = [.ref a, .ref b] ∧ One K H a n d fl ∧ One K H b m e fm ∧ ∀ H', Same H H' → Q (.bl true) H'
def sp__law_refused (K : PySem.W.Frag) : Sp := fun vs H Q _ => ∃ (a : Addr) (n d : Int) (y : V) (e w : Int), vs = [.ref a, y, .int w] ∧ FracAt K H a n d ∧ Rt n d ∧ Num K H y 0 e ∧ Rt 0 e ∧ ∀ H', Same H H' → Q (.bl true) H'
def sp__law_divided (K : PySem.W.Frag) : Sp := fun vs H Q _ => ∃ (f : Addr) (y : V) (a b : Addr) (n d m e : Int) (fl fm : Bool), vs = [.ref f, y, .ref a, .ref b] ∧ One K H a n d fl ∧ One K H b m e fm ∧ FracAt K H f (lowN n d) (lowD n d) ∧ Made K H y m e fm ∧ ∀ H', Same H H' → Q (.bl true) H'
/-- the items of a list are numbers of the law -/
def Ones (K : PySem.W.Frag) (H : Hp) : List V → List (Int × Int × Bool) → Prop
  | [], [] => True
  | x :: xs, r :: rs => (∃ a, x = .ref a ∧ One K H a r.1 r.2.1 r.2.2) ∧ Ones K H xs rs
  | _, _ => False
def sp__law_sums (K : PySem.W.Frag) : Sp := fun vs H Q _ => ∃ (l : Addr) (xs : List V) (rs : List (Int × Int × Bool)), vs = [.ref l] ∧ SqL K H l xs ∧ Ones K H xs rs ∧ 0 < xs.length ∧ xs.length ≤ 8 ∧ ∀ H', Same H H' → Q (.bl true) H'
def sp__law_digits (K : PySem.W.Frag) : Sp := fun vs H Q _ => ∃ p : Addr, vs = [.ref p] ∧ PoolAt H p ∧ ∀ H' z, PoolTo p H H' → z.length ≤ 14 → Q (.str z) H'
def sp__law_ratio (K : PySem.W.Frag) : Sp := fun vs H Q _ => ∃ p : Addr, vs = [.ref p] ∧ PoolAt H p ∧ ∀ H' z, PoolTo p H H' → z.length ≤ 29 → Q (.str z) H'
def sp__law_spoilt (K : PySem.W.Frag) : Sp := fun vs H Q _ => ∃ (p : Addr) (x : Str), vs = [.ref p, .str x] ∧ PoolAt H p ∧ x.length ≤ 100 ∧ ∀ H' z, PoolTo p H H' → z.length ≤ 2 * x.length + 1 → Q (.str z) H'
def sp__law_errors (K : PySem.W.Frag) : Sp := fun vs H Q _ => ∃ (i j : Int) (z : Str), vs = [.int i, .int j, .str z] ∧ z.length ≤ 100 ∧ ∀ H', Same H H' → Q (.bl true) H'
def sp_law (K : PySem.W.Frag) : Sp := fun vs H Q _ => ∃ (a : Addr) (ns : List Int), vs = [.ref a] ∧ SqL K H a (ns.map V.int) ∧ ∀ H', Q (.bl true) H'
/-! copies, errors -/
inductive CpD where
  | i (n : Int)
  | t (ns : List Int)
  | l (ns : List Int)
def CpIn (K : PySem.W.Frag) (H : Hp) (v : V) : CpD → Prop
  | .i n => v = .int n
  | .t ns => ∃ a, v = .ref a ∧ ns.length ≤ 100 ∧ SqT K H a (ns.map V.int)
  | .l ns => ∃ a, v = .ref a ∧ ns.length ≤ 100 ∧ SqL K H a (ns.map V.int)
def CpOut (K : PySem.W.Frag) (H H' : Hp) (v' : V) : CpD → Prop
  | .i n => v' = .int n
  | .t ns => ∃ q, v' = .ref q ∧ SqT K H' q (ns.map V.int)
  | .l ns => ∃ q, v' = .ref q ∧ H q = none ∧ H' q = some (.lst (ns.map V.int))
def sp_copied (K : PySem.W.Frag) : Sp := fun vs H Q _ => ∃ (v : V) (c : CpD), vs = [v] ∧ CpIn K H v c ∧ ∀ H' v', Same H H' → CpOut K H H' v' c → Q v' H'
/-- all but x is as it was -/
def But (x : Addr) (H H' : Hp) : Prop := ∀ b o, b ≠ x → H b = some o → H' b = some o
theorem CpOut.keep {K : PySem.W.Frag} {H H1 H2 : Hp} {v' : V} {c : CpD} {a : Addr} {C : Addr} (r : CpOut K H H1 v' c) (ha : H1 a = some (exo a C none)) (k : ∀ b o, b ≠ a → H1 b = some o → H2 b = some o) : CpOut K H H2 v' c := by
  cases c with
  | i n => exact r
  | t ns =>
    obtain ⟨q, h2, h4⟩ := r
    refine ⟨q, h2, ?_⟩
    have ne : ∀ o, H1 q = some o → (∀ C' d, o ≠ exo q C' d) → q ≠ a := fun o e n z => by
      subst z
      rw [ha] at e
      exact n _ _ (Option.some.inj e).symm
    rcases h4 with (h4 | ⟨o, h4⟩) | h4
    · exact .inl (.inl (k _ _ (ne _ h4 fun _ _ z => nomatch (show HO.tup _ = HO.ext _ from z)) h4))
    · exact .inl (.inr ⟨o, k _ _ (ne _ h4 fun _ _ z => nomatch (show HO.frz _ _ = HO.ext _ from z)) h4⟩)
    · exact .inr h4
  | l ns =>
    obtain ⟨q, h2, h4, h5⟩ := r
    refine ⟨q, h2, h4, k _ _ (fun z => ?_) h5⟩
    subst z
    rw [ha] at h5
    exact nomatch (show HO.ext _ = HO.lst _ from Option.some.inj h5)
def spX0 (K : PySem.W.Frag) (x : Str) : Sp := fun vs H Q _ => ∃ a : Addr, vs = [.ref a] ∧ H a = some (exo a (ga K x) none) ∧ Q .non H
def spX1 (K : PySem.W.Frag) (x f : Str) : Sp := fun vs H Q _ => ∃ (a : Addr) (y : V), vs = [.ref a, y] ∧ H a = some (exo a (ga K x) none) ∧
  ∀ H' dx, But a H H' → H' a = some (exo a (ga K x) (some dx)) → H dx = none → dx ≠ a → H' dx = some (exd dx [(f, y)]) → Q .non H'
def spX2 (K : PySem.W.Frag) (x f g : Str) : Sp := fun vs H Q _ => ∃ (a : Addr) (y z : V), vs = [.ref a, y, z] ∧ H a = some (exo a (ga K x) none) ∧
  ∀ H' dx, But a H H' → H' a = some (exo a (ga K x) (some dx)) → H dx = none → dx ≠ a → H' dx = some (exd dx [(g, z), (f, y)]) → Q .non H'
def spXc (K : PySem.W.Frag) (x f : Str) : Sp := fun vs H Q _ => ∃ (a : Addr) (y : V) (c : CpD), vs = [.ref a, y] ∧ H a = some (exo a (ga K x) none) ∧ CpIn K H y c ∧
  ∀ H' dx y', But a H H' → H' a = some (exo a (ga K x) (some dx)) → H dx = none → dx ≠ a → H' dx = some (exd dx [(f, y')]) → CpOut K H H' y' c → Q .non H'
theorem putF2 {a b : V} : putF "den" b (putF "num" a []) = [(("num" : Str), a), (("den" : Str), b)] := by
  unfold putF
  show (if ("num" : Str) = "den" then _ else _) = _
  rw [if_neg (by decide)]
  rfl
theorem del_upd {H : Hp} {a : Addr} {o : HO} (h : H a = none) : del (upd H a o) a = H := by
  funext b
  by_cases hb : b = a
  · rw [hb, del_same, h]
  · rw [del_ne hb, upd_ne hb]
/-! readings in short -/
section
variable {K : PySem.W.Frag} {σ : L2.St} {H : Hp} {Q : VK} {a dx : Addr} {n d : Int} {i : Nat}
theorem rd_num (ff : FF K) (ha : H a = some (.ins (fC K) dx [("num", .int n), ("den", .int d)])) (hi : σ[i]? = some (some (.ref a))) (q : Q (.int n) H) : tFld K (tVar i) "num" σ H Q :=
  ⟨_, hi, a, _, dx, _, _, rfl, ha, ff.cls, ff.no _ (by decide +kernel), rfl, q⟩
theorem rd_den (ff : FF K) (ha : H a = some (.ins (fC K) dx [("num", .int n), ("den", .int d)])) (hi : σ[i]? = some (some (.ref a))) (q : Q (.int d) H) : tFld K (tVar i) "den" σ H Q :=
  ⟨_, hi, a, _, dx, _, _, rfl, ha, ff.cls, ff.no _ (by decide +kernel), rfl, q⟩
end
theorem two_size : ([V.int 0, V.int 0] : List V).length ≤ sizeLine := by
  rw [sizeLine_eq]
  decide
theorem PoolTo.refl {p : Addr} {H : Hp} (h : PoolAt H p) : PoolTo p H H := ⟨fun _ _ _ q => q, h⟩
theorem PoolTo.trans {p : Addr} {H H1 H2 : Hp} (a : PoolTo p H H1) (b : PoolTo p H1 H2) : PoolTo p H H2 := ⟨fun c o n q => b.1 c o n (a.1 c o n q), b.2⟩
theorem PoolTo.upd {p x : Addr} {H H' : Hp} {o : HO} (a : PoolTo p H H') (h : H' x = none) : PoolTo p H (upd H' x o) := by
  obtain ⟨xs, e, r⟩ := a.2
  exact ⟨fun c u n q => by
    rw [upd_ne (ne_of_none (a.1 c u n q) h)]
    exact a.1 c u n q, xs, by rw [upd_ne (ne_of_none e h)]; exact e, r⟩
theorem PoolTo.same {p : Addr} {H H1 H2 : Hp} (a : PoolTo p H H1) (b : Same H1 H2) : PoolTo p H H2 := by
  obtain ⟨xs, e, r⟩ := a.2
  exact ⟨fun c o n q => b _ _ (a.1 c o n q), xs, b _ _ e, r⟩
theorem rd_draw {K : PySem.W.Frag} {p : Addr} {m : Int} {H : Hp} {Q : VK} {E : XK} (hp : PoolAt H p) (hm : 0 < m) (hb : m.natAbs < 2 ^ 64) (k : ∀ H' i, PoolTo p H H' → 0 ≤ i → i < m → Q (.int i) H') : sp__law_draw K [.ref p, .int m] H Q E :=
  ⟨p, m, rfl, hp, hm, Bd.mono (a := 64) hb (by decide), k⟩
theorem bd_of {i m : Int} {k : Nat} (h0 : 0 ≤ i) (h : i < m) (hm : m ≤ 2 ^ k) : Bd k i := by
  unfold Bd
  have e : ((2 ^ k : Nat) : Int) = 2 ^ k := by simp
  omega
theorem small_size {n : Nat} (h : n ≤ 1000) : n ≤ sizeLine := by
  rw [sizeLine_eq]
  omega
theorem bd40 {x : Int} (h : L12 x) : Bd 40 x := Nat.lt_of_le_of_lt (show x.natAbs ≤ 10 ^ 12 from h) (by decide)
/-- the signs of an int -/
def numT (n : Int) : List Nat := if n < 0 then 45 :: TL.numL n.natAbs else TL.numL n.natAbs
theorem str_int (n : Int) : Str.ofString (toString n) = SX.S (numT n) := by
  cases n with
  | ofNat m => exact SX.num_S m
  | negSucc m =>
    refine TL.ext_tl ?_
    rw [TL.tl_ofString, show toString (Int.negSucc m) = "-" ++ Nat.repr (m + 1) from rfl, String.toList_append]
    unfold numT
    rw [if_pos (by omega)]
    show _ = 45 :: (Nat.toDigits 10 (m + 1)).map Char.toNat
    rw [List.map_append, show (Nat.repr (m + 1)).toList = Nat.toDigits 10 (m + 1) by unfold Nat.repr; simp]
    rfl
theorem len_num {x : Int} (h : Bd 45 x) : (Str.ofString (toString x)).length ≤ 16 := by
  rw [str_int, SX.S_len]
  have e := TL.numL_len (n := x.natAbs) (k := 15) (by decide) (Nat.lt_trans (show x.natAbs < 2 ^ 45 from h) (by decide))
  unfold numT
  split
  · simp
    omega
  · omega
theorem txt_size1 {n : Int} (h : Bd 45 n) : (Str.ofString (toString n)).length + (Str.ofString "/").length ≤ sizeLine := small_size (by
  have := len_num h
  have e : (Str.ofString "/").length = 1 := by decide +kernel
  omega)
theorem str_len_app (a b : Str) : (a ++ b).length = a.length + b.length := by
  show (a.cps ++ b.cps).size = _
  rw [Array.size_append]
  rfl
theorem txt_size2 {n d : Int} (h : Bd 45 n) (h' : Bd 45 d) : (Str.ofString (toString n) ++ Str.ofString "/").length + (Str.ofString (toString d)).length ≤ sizeLine := small_size (by
  have := len_num h
  have := len_num h'
  have e : (Str.ofString "/").length = 1 := by decide +kernel
  rw [str_len_app]
  omega)
/-! walks over a list or a tuple -/
theorem pi_or {X : Cx} {tg iter : Expr} {w1 w2 : TI} (h1 : PI X tg iter w1) (h2 : PI X tg iter w2) : PI X tg iter (fun σ H R => w1 σ H R ∨ w2 σ H R) :=
  ⟨fun pins s σ H R I h => h.elim (h1.run pins s σ H R I) (h2.run pins s σ H R I)⟩
theorem for_x {K : PySem.W.Frag} {a : Addr} {xs : List V} {j : Nat} {g : TG} {tb : TS} {D : Ends} {σ : L2.St} {H0 H : Hp} (hj : σ[j]? = some (some (.ref a))) (hx : SqX K H0 a xs) (Pv : Nat → L2.St → Hp → Prop) (h0 : Pv 0 σ H) (hl : ∀ i σ' H', Pv i σ' H' → Same H0 H')
    (hs : ∀ i x σ' H', xs[i]? = some x → Pv i σ' H' → g x σ' H' fun σ2 H2 => tb { D with nx := Pv (i + 1), ct := Pv (i + 1), bk := D.nx } σ2 H2) (hd : ∀ σ' H', Pv xs.length σ' H' → D.nx σ' H') :
    tFor (fun σ H R => iList K (tVar j) σ H R ∨ iTup K (tVar j) σ H R) g tb D σ H := by
  rcases hx with hx | hx
  · exact .inl ⟨_, hj, a, rfl, ⟨_, (hl 0 σ H h0).seq hx⟩, for_list Pv h0 (fun i σ' H' _ p => (hl i σ' H' p).seq hx) hs hd⟩
  · exact .inr ⟨_, hj, a, rfl, ⟨_, (hl 0 σ H h0).tup hx⟩, for_tup Pv h0 (fun i σ' H' _ p => (hl i σ' H' p).tup hx) hs hd⟩
theorem Nums.same {K : PySem.W.Frag} {H H' : Hp} (e : Same H H') : ∀ {xs : List V} {rs : List (Int × Int)}, Nums K H xs rs → Nums K H' xs rs
  | [], [], _ => trivial
  | _ :: _, _ :: _, ⟨h1, h2, h3, h4, h5⟩ => ⟨h1.same e, h2, h3, h4, Nums.same e h5⟩
  | [], _ :: _, h => h.elim
  | _ :: _, [], h => h.elim
theorem Nums.len {K : PySem.W.Frag} {H : Hp} : ∀ {xs : List V} {rs : List (Int × Int)}, Nums K H xs rs → xs.length = rs.length
  | [], [], _ => rfl
  | _ :: _, _ :: _, ⟨_, _, _, _, h5⟩ => congrArg Nat.succ (Nums.len h5)
  | [], _ :: _, h => h.elim
  | _ :: _, [], h => h.elim
theorem Nums.get {K : PySem.W.Frag} {H : Hp} : ∀ {xs : List V} {rs : List (Int × Int)} {i : Nat} {x : V}, Nums K H xs rs → xs[i]? = some x → ∃ r, rs[i]? = some r ∧ Num K H x r.1 r.2 ∧ 0 < r.2 ∧ Bd 45 r.1 ∧ Bd 45 r.2
  | _ :: _, r :: _, 0, x, ⟨h1, h2, h3, h4, h5⟩, e => by
    cases e
    exact ⟨r, rfl, h1, h2, h3, h4⟩
  | _ :: _, _ :: _, i + 1, x, ⟨_, _, _, _, h5⟩, e => Nums.get (i := i) h5 e
  | [], _, _, _, _, e => by cases e
  | _ :: _, [], _, _, h, _ => h.elim
/-! the sum, by the wholes -/
theorem sumF_ws (D : Int) : ∀ (rs : List (Int × Int)) (ws : List Int) (A p q : Int), A * q = p * D → ws.length = rs.length → (∀ (i : Nat) (r : Int × Int) (w : Int), rs[i]? = some r → ws[i]? = some w → w * r.2 = r.1 * D) → (A + ws.sum) * (sumF (p, q) rs).2 = (sumF (p, q) rs).1 * D
  | [], [], A, p, q, h, _, _ => by
    show (A + 0) * q = p * D
    rw [Int.add_zero]
    exact h
  | r :: rs, w :: ws, A, p, q, h, hl, hw => by
    have e := hw 0 r w rfl rfl
    have ih := sumF_ws D rs ws (A + w) (p * r.2 + r.1 * q) (q * r.2) (by
      calc (A + w) * (q * r.2) = (A * q) * r.2 + (w * r.2) * q := by rw [Int.add_mul]; simp only [Int.mul_assoc, Int.mul_comm, Int.mul_left_comm]
        _ = (p * D) * r.2 + (r.1 * D) * q := by rw [h, e]
        _ = (p * r.2 + r.1 * q) * D := by rw [Int.add_mul]; simp only [Int.mul_assoc, Int.mul_comm, Int.mul_left_comm]) (by simpa using hl) (fun i r' w' h1 h2 => hw (i + 1) r' w' h1 h2)
    show (A + (w :: ws).sum) * (sumF (p * r.2 + r.1 * q, q * r.2) rs).2 = (sumF (p * r.2 + r.1 * q, q * r.2) rs).1 * D
    rw [List.sum_cons, ← Int.add_assoc]
    exact ih
  | [], _ :: _, _, _, _, _, hl, _ => by simp at hl
  | _ :: _, [], _, _, _, _, hl, _ => by simp at hl
theorem sumF_pos : ∀ (rs : List (Int × Int)) (p q : Int), 0 < q → (∀ r ∈ rs, 0 < r.2) → 0 < (sumF (p, q) rs).2
  | [], _, _, h, _ => h
  | r :: rs, p, q, h, hr => sumF_pos rs _ _ (Int.mul_pos h (hr r List.mem_cons_self)) fun z hz => hr z (List.mem_cons_of_mem _ hz)
theorem size0 : ([] : List V).length ≤ sizeLine := Nat.zero_le _
theorem small_lt {n : Nat} (h : n ≤ 1000) : n < sizeLine := by
  rw [sizeLine_eq]
  omega
theorem upd_again {H H1 : Hp} {l : Addr} {o : HO} (e : Same H H1) (hl : H l = none) : Same H (upd H1 l o) := fun b u q => by
  rw [upd_ne (ne_of_none q hl)]
  exact e _ _ q
theorem dvd_of_fmod {a b : Int} (h : a.fmod b = 0) : b ∣ a := ⟨a.fdiv b, by
  have := Int.mul_fdiv_add_fmod a b
  omega⟩
theorem SqX.same {K : PySem.W.Frag} {H H' : Hp} {a : Addr} {xs : List V} (e : Same H H') (h : SqX K H a xs) : SqX K H' a xs := h.imp e.seq e.tup
theorem bd64 {m : Int} (h : m.natAbs < 2 ^ 64) : Bd 9000 m := Bd.mono (a := 64) h (by decide)
theorem PoolTo.tup {K : PySem.W.Frag} {p a : Addr} {H H' : Hp} {xs : List V} (hp : PoolAt H p) (t : PoolTo p H H') (h : SqT K H a xs) : SqT K H' a xs := by
  obtain ⟨ys, e, _⟩ := hp
  rcases h with (h | ⟨o, h⟩) | h
  · exact .inl (.inl (t.1 _ _ (fun z => by subst z; rw [e] at h; cases h) h))
  · exact .inl (.inr ⟨o, t.1 _ _ (fun z => by subst z; rw [e] at h; cases h) h⟩)
  · exact .inr h
theorem PoolTo.one {K : PySem.W.Frag} {p a : Addr} {H H' : Hp} {n d : Int} {fl : Bool} (hp : PoolAt H p) (t : PoolTo p H H') (h : One K H a n d fl) : One K H' a n d fl := ⟨t.tup hp h.1, h.2⟩
theorem b1000 {d : Int} (h : L12 d) : Bd 1000 d := (bd40 h).mono (by decide)
theorem bd1 : Bd 1000 1 := Nat.one_lt_two_pow (by decide)
theorem rtLow {n d : Int} (hd : d ≠ 0) (ln : L12 n) (ld : L12 d) : Rt (lowN n d) (lowD n d) := ⟨lowD_pos hd, ((bd40 ln).lowN hd).mono (by decide), ((bd40 ld).lowD hd).mono (by decide)⟩
theorem low_neg {n d : Int} (hd : d ≠ 0) : lowN (-lowN n d) (lowD n d) = lowN (-n) d ∧ lowD (-lowN n d) (lowD n d) = lowD (-n) d := by
  have p := lowD_pos (a := n) hd
  refine low_eq (by omega) hd ?_
  rw [Int.neg_mul, Int.neg_mul, low_cross]
theorem low_abs {n d : Int} (hd : d ≠ 0) : lowN (if lowN n d < 0 then -lowN n d else lowN n d) (lowD n d) = lowN (if n < 0 then -n else n) (if d < 0 then -d else d) ∧ lowD (if lowN n d < 0 then -lowN n d else lowN n d) (lowD n d) = lowD (if n < 0 then -n else n) (if d < 0 then -d else d) := by
  have p := lowD_pos (a := n) hd
  have c := low_cross n d
  have ab : ∀ x : Int, (if x < 0 then -x else x) = (x.natAbs : Int) := fun x => by split <;> omega
  refine low_eq (by omega) (by rw [ab]; omega) ?_
  rw [ab, ab, ab, ← Int.natCast_mul, ← Int.natAbs_mul, c, Int.natAbs_mul]
  have : ((lowD n d).natAbs : Int) = lowD n d := by omega
  rw [Int.natCast_mul, this]
theorem low_self2 {n d : Int} (hd : d ≠ 0) : lowN (lowN n d) (lowD n d) = lowN n d ∧ lowD (lowN n d) (lowD n d) = lowD n d := low_self (lowD_pos hd) (low_coprime hd)
theorem lowN_zero {n d : Int} (hd : d ≠ 0) : lowN n d = 0 ↔ n = 0 := by
  have e := lowN_mul n d
  constructor
  · intro z
    rw [z, Int.zero_mul] at e
    exact e.symm
  · intro z
    rw [z] at e ⊢
    rcases Int.mul_eq_zero.mp e with q | q
    · exact q
    · exact absurd q (gs_ne hd)
theorem Made.num {K : PySem.W.Frag} {H : Hp} {v : V} {n d : Int} {fl : Bool} (m : Made K H v n d fl) (hf : fl = true → d = 1) : Num K H v (lowN n d) (lowD n d) := by
  cases fl with
  | true =>
    have e := hf rfl
    subst e
    rw [(low_one n).1, (low_one n).2]
    exact .inl ⟨m.1 rfl, rfl⟩
  | false =>
    obtain ⟨q, e, f⟩ := m.2 rfl
    exact .inr ⟨q, e, f⟩
theorem Made.same {K : PySem.W.Frag} {H H' : Hp} {v : V} {n d : Int} {fl : Bool} (s : Same H H') (m : Made K H v n d fl) : Made K H' v n d fl := ⟨m.1, fun z => by
  obtain ⟨q, e, f⟩ := m.2 z
  exact ⟨q, e, f.same s⟩⟩
theorem fdiv_scale {a b k : Int} (hk : k ≠ 0) : (a * k).fdiv (b * k) = a.fdiv b := by
  rcases Int.lt_trichotomy k 0 with h | h | h
  · have e := Int.mul_fdiv_mul_of_pos_left a (c := b) (b := -k) (by omega)
    rw [Int.mul_neg, Int.mul_neg, Int.neg_fdiv_neg] at e
    exact e
  · exact absurd h hk
  · exact Int.mul_fdiv_mul_of_pos_left a b h
theorem fdiv_cross {a b c d : Int} (hb : b ≠ 0) (hd : d ≠ 0) (h : a * d = c * b) : a.fdiv b = c.fdiv d := by
  rw [← fdiv_scale (a := a) (b := b) hd, h, Int.mul_comm b d, fdiv_scale hb]
theorem sgn_of {u v w r t : Int} (E : (u - v) * r = w * t) (hr : 0 < r) (ht : 0 < t) : (u < v ↔ w < 0) ∧ (v < u ↔ 0 < w) := by
  have a1 : ∀ {x y : Int}, 0 < y → 0 < x → 0 < x * y := fun hy hx => Int.mul_pos hx hy
  have a2 : ∀ {x y : Int}, 0 < y → x < 0 → x * y < 0 := fun hy hx => Int.mul_neg_of_neg_of_pos hx hy
  refine ⟨⟨fun q => ?_, fun q => ?_⟩, ⟨fun q => ?_, fun q => ?_⟩⟩
  · have k := a2 hr (show u - v < 0 by omega)
    rw [E] at k
    rcases Int.lt_trichotomy w 0 with z | z | z
    · exact z
    · rw [z] at k
      omega
    · have := a1 ht z
      omega
  · have k := a2 ht q
    rw [← E] at k
    rcases Int.lt_trichotomy (u - v) 0 with z | z | z
    · omega
    · rw [z] at k
      omega
    · have := a1 hr z
      omega
  · have k := a1 hr (show 0 < u - v by omega)
    rw [E] at k
    rcases Int.lt_trichotomy w 0 with z | z | z
    · have := a2 ht z
      omega
    · rw [z] at k
      omega
    · exact z
  · have k := a1 ht q
    rw [← E] at k
    rcases Int.lt_trichotomy (u - v) 0 with z | z | z
    · have := a2 hr z
      omega
    · rw [z] at k
      omega
    · omega
/-! the same where the context is a try's or a suite's -/
section
variable {X : Cx} {k n : Nat} {x m : Str} {ps : List Str} {sp : Sp} {E : XK} {p pos apos : Pos} {e o e2 : Expr} {es : List Expr} {t : TA} {to ta : TE} {f : Str}
theorem call_isXK (K : PySem.W.Frag) (hK : X.K = K) : CallR X (.builtin "isinstance") (rIsX K) := hK ▸ call_isX
theorem pe_efK (K : PySem.W.Frag) (hK : X.K = K) (he : PE X e ta) (hb : attributeBase e f X.env (eval e X.env) = eval e X.env := by rfl) : PE X (.Attribute e f pos) (tEf K f ta) := hK ▸ pe_ef he hb
theorem pe_fldK (K : PySem.W.Frag) (hK : X.K = K) (he : PE X e ta) (hb : attributeBase e f X.env (eval e X.env) = eval e X.env := by rfl) : PE X (.Attribute e f pos) (tFld K ta f) := hK ▸ pe_fld he hb
theorem pe_frac2K (K : PySem.W.Frag) (hK : X.K = K) (C : CalF X.prog X.w X.K X.mg X.base) (hr : Room n X.A) (hx : Passes (L2.CX X.prog X.w) X E) (ha : PA X [e, e2] t) (hkn : 4 ≤ n := by decide) (hg : Gl X "Frac" := by rfl)
    (he : starEach [e, e2] X.env = (false, eval e X.env) :: starEach [e2] X.env := by rfl) (hpl : (backTo pos (starEach [e2] X.env)).any (·.1) = false := by rfl) : PE X (.Call (.Name "Frac" p) [e, e2] [] pos) (tMake (fC K) (sp_init K) [] E t) := hK ▸ pe_frac2 C hr hx ha hkn hg he hpl
theorem pe_calMK (K : PySem.W.Frag) (hK : X.K = K) (C : CalM X.prog X.w X.K X.mg X.base k (fC X.K) m ps sp) (hr : Room n X.A) (hx : Passes (L2.CX X.prog X.w) X E) (ho : PE X o to) (ha : PA X (e :: es) t) {pl : Sem Bool} (hkn : k ≤ n := by decide)
    (hst : starEach (e :: es) X.env = (false, eval e X.env) :: starEach es X.env := by rfl) (hpl : (backTo pos (starEach es X.env)).any (·.1) = false := by rfl)
    (ht : eval (.Call (.Attribute o m apos) (e :: es) [] pos) X.env = (do
      let ov ← eval o X.env
      standAt apos.atName
      let (f, first) ← holding [ov] (getMethod ov m pl)
      callWith pos f first (backTo pos (starEach (e :: es) X.env)) (backToKw pos (keywordEach [] X.env))) := by rfl) : PE X (.Call (.Attribute o m apos) (e :: es) [] pos) (tMeth (fC K) m sp [] E to t) := hK ▸ pe_calM C hr hx ho ha hkn hst hpl ht
end
theorem atI_some {α : Type} {xs : List α} {i : Int} (h0 : 0 ≤ i) (h : i < xs.length) : ∃ v, atI xs i = some v ∧ v ∈ xs := by
  obtain ⟨j, rfl⟩ := Int.eq_ofNat_of_zero_le h0
  have hj : j < xs.length := by omega
  exact ⟨xs[j], atI_nat (by simp [hj]), List.getElem_mem hj⟩
/-- errors -/
def ps_X_DivisionByZero : List Str := ["self"]
def sp_X_DivisionByZero (K : PySem.W.Frag) : Sp := spX0 K "DivisionByZero"
def ps_X_BadText : List Str := ["self", "at"]
def sp_X_BadText (K : PySem.W.Frag) : Sp := spX1 K "BadText" "at"
def ps_X_BadSize : List Str := ["self", "size"]
def sp_X_BadSize (K : PySem.W.Frag) : Sp := spX1 K "BadSize" "size"
def ps_X_BadSizes : List Str := ["self", "given", "wanted"]
def sp_X_BadSizes (K : PySem.W.Frag) : Sp := spX2 K "BadSizes" "given" "wanted"
def ps_X_BadPlace : List Str := ["self", "place"]
def sp_X_BadPlace (K : PySem.W.Frag) : Sp := spXc K "BadPlace" "place"
def ps_X_BadCount : List Str := ["self", "count"]
def sp_X_BadCount (K : PySem.W.Frag) : Sp := spX1 K "BadCount" "count"
def ps_X_BadName : List Str := ["self", "name"]
def sp_X_BadName (K : PySem.W.Frag) : Sp := spX1 K "BadName" "name"
def ps_X_BadWeight : List Str := ["self", "at"]
def sp_X_BadWeight (K : PySem.W.Frag) : Sp := spX1 K "BadWeight" "at"
def ps_X_BadSign : List Str := ["self", "at"]
def sp_X_BadSign (K : PySem.W.Frag) : Sp := spX1 K "BadSign" "at"
def ps_X_BadTie : List Str := ["self", "index"]
def sp_X_BadTie (K : PySem.W.Frag) : Sp := spX1 K "BadTie" "index"
def ps_X_BadLot : List Str := ["self", "lot"]
def sp_X_BadLot (K : PySem.W.Frag) : Sp := spXc K "BadLot" "lot"
def ps_X_Mismatch : List Str := ["self"]
def sp_X_Mismatch (K : PySem.W.Frag) : Sp := spX0 K "Mismatch"
def ps_X_NotSymmetric : List Str := ["self", "row", "column"]
def sp_X_NotSymmetric (K : PySem.W.Frag) : Sp := spX2 K "NotSymmetric" "row" "column"
def ps_X_NotPositive : List Str := ["self", "row"]
def sp_X_NotPositive (K : PySem.W.Frag) : Sp := spXc K "NotPositive" "row"
def ps_X_NotUnit : List Str := ["self", "det"]
def sp_X_NotUnit (K : PySem.W.Frag) : Sp := spX1 K "NotUnit" "det"
def ps_X_NotWhole : List Str := ["self", "row", "column"]
def sp_X_NotWhole (K : PySem.W.Frag) : Sp := spX2 K "NotWhole" "row" "column"
def ps_X_NotEven : List Str := ["self", "place"]
def sp_X_NotEven (K : PySem.W.Frag) : Sp := spXc K "NotEven" "place"
def ps_X_NotPerfect : List Str := ["self"]
def sp_X_NotPerfect (K : PySem.W.Frag) : Sp := spX0 K "NotPerfect"
def ps_X_Singular : List Str := ["self", "row"]
def sp_X_Singular (K : PySem.W.Frag) : Sp := spXc K "Singular" "row"
def ps_X_Barred : List Str := ["self", "weights"]
def sp_X_Barred (K : PySem.W.Frag) : Sp := spXc K "Barred" "weights"
def ps_X_ZeroRow : List Str := ["self"]
def sp_X_ZeroRow (K : PySem.W.Frag) : Sp := spX0 K "ZeroRow"
def ps_X_NoMirror : List Str := ["self", "row"]
def sp_X_NoMirror (K : PySem.W.Frag) : Sp := spXc K "NoMirror" "row"
def ps_X_NoBall : List Str := ["self"]
def sp_X_NoBall (K : PySem.W.Frag) : Sp := spX0 K "NoBall"
def ps_X_Flat : List Str := ["self", "row"]
def sp_X_Flat (K : PySem.W.Frag) : Sp := spXc K "Flat" "row"
def ps_X_Loose : List Str := ["self", "lot"]
def sp_X_Loose (K : PySem.W.Frag) : Sp := spXc K "Loose" "lot"
def ps_X_TooMany : List Str := ["self", "most"]
def sp_X_TooMany (K : PySem.W.Frag) : Sp := spX1 K "TooMany" "most"
def ps_X_TooLarge : List Str := ["self", "value"]
def sp_X_TooLarge (K : PySem.W.Frag) : Sp := spX1 K "TooLarge" "value"
def ps_X_Ended : List Str := ["self"]
def sp_X_Ended (K : PySem.W.Frag) : Sp := spX0 K "Ended"
def ps_X_NothingToUndo : List Str := ["self"]
def sp_X_NothingToUndo (K : PySem.W.Frag) : Sp := spX0 K "NothingToUndo"
def ps_X_NothingToRedo : List Str := ["self"]
def sp_X_NothingToRedo (K : PySem.W.Frag) : Sp := spX0 K "NothingToRedo"
def ps_X_NoDeed : List Str := ["self", "name"]
def sp_X_NoDeed (K : PySem.W.Frag) : Sp := spX1 K "NoDeed" "name"
def ps_X_Stopped : List Str := ["self", "at"]
def sp_X_Stopped (K : PySem.W.Frag) : Sp := spX1 K "Stopped" "at"
/-- the rule for a def that also runs while an error is handled -/
theorem okW {P : Program} {w : World} {K : PySem.W.Frag} {mg : Str → Option Value} {base : Heap} {CX : CXT} {x qual : Str} {N ps : List Str} {k : Nat} {sp : Sp} {pa : Arguments} {bd : List Stmt} {sc : Scope} {dvs : List V} {f : Addr} {fd : FuncData} (F : FunD K x qual pa bd sc dvs [] f fd) (S : FnScope N ps sc) (len : ∀ vs H Q E, sp vs H Q E → vs.length = ps.length)
    (hbody : ∀ (cdv : Value) (A : Around) (outer : List Env) (s : Shared) (H : Hp) (vs : List V) (Q : VK) (E : XK), L2H.RoomH k (A.deeper (envOfC qual sc s.heap.objs.size f cdv)) → sp vs H Q E →
      ∃ t, PSs (cxW CX P w K mg base N qual sc f cdv A outer s H E) bd t ∧ t { nx := fun _ H' => Q .non H', rt := Q } (L2.start N vs) H) : FnW P w K mg base CX (k + 1) f fd ps sp := by
  obtain ⟨oc, od, dV, kV, doc, pm, an, cdv, ct, osl, rfl, lk, hcd, _, _⟩ := F.ex
  exact fn_ofW lk hcd S len fun A outer s H vs Q E hr hsp => hbody cdv A outer s H vs Q E hr hsp
theorem same_but {H H' : Hp} {a : Addr} {o : HO} (na : H a = none) (b : But a (upd H a o) H') : Same H H' := fun c u q => b c u (ne_of_none q na) (by rw [upd_ne (ne_of_none q na)]; exact q)
end K0
/-! the texts of fractions: how they are read, how the law scans them -/
namespace K0
open PySem PySem.Spec PyProof.Rows L2 He HX KF
def isD (c : Nat) : Bool := decide (48 ≤ c) && decide (c ≤ 57)
def isF (c : Nat) : Bool := decide (49 ≤ c) && decide (c ≤ 57)
theorem isD_iff {c : Nat} : isD c = true ↔ 48 ≤ c ∧ c ≤ 57 := by unfold isD; simp
theorem isF_iff {c : Nat} : isF c = true ↔ 49 ≤ c ∧ c ≤ 57 := by unfold isF; simp
theorem in_digits (c : Nat) : decide (c ∈ (Str.ofString "0123456789").cps.toList) = isD c := by
  rw [show (Str.ofString "0123456789").cps.toList = [48, 49, 50, 51, 52, 53, 54, 55, 56, 57] by decide +kernel]
  by_cases h : isD c = true
  · rw [h]
    have := isD_iff.mp h
    rw [decide_eq_true_eq]
    simp
    omega
  · rw [Bool.eq_false_iff.mpr h]
    rw [decide_eq_false_iff_not]
    have : ¬ (48 ≤ c ∧ c ≤ 57) := fun z => h (isD_iff.mpr z)
    simp
    omega
theorem in_first (c : Nat) : decide (c ∈ (Str.ofString "123456789").cps.toList) = isF c := by
  rw [show (Str.ofString "123456789").cps.toList = [49, 50, 51, 52, 53, 54, 55, 56, 57] by decide +kernel]
  by_cases h : isF c = true
  · rw [h]
    have := isF_iff.mp h
    rw [decide_eq_true_eq]
    simp
    omega
  · rw [Bool.eq_false_iff.mpr h]
    rw [decide_eq_false_iff_not]
    have : ¬ (49 ≤ c ∧ c ≤ 57) := fun z => h (isF_iff.mpr z)
    simp
    omega
def runD : Nat → List Nat → Nat
  | 0, _ => 0
  | _ + 1, [] => 0
  | k + 1, c :: r => if isD c = true then runD k r + 1 else 0
theorem runD_nil (k : Nat) : runD k [] = 0 := by cases k <;> rfl
theorem runD_le : ∀ (k : Nat) (r : List Nat), runD k r ≤ k
  | 0, _ => Nat.le_refl _
  | _ + 1, [] => Nat.zero_le _
  | k + 1, c :: r => by
    unfold runD
    split
    · exact Nat.succ_le_succ (runD_le k r)
    · omega
theorem runD_len : ∀ (k : Nat) (r : List Nat), runD k r ≤ r.length
  | 0, _ => Nat.zero_le _
  | _ + 1, [] => Nat.zero_le _
  | k + 1, c :: r => by
    unfold runD
    split
    · exact Nat.succ_le_succ (runD_len k r)
    · omega
theorem runD_all : ∀ (k : Nat) (r : List Nat), NumText.AllDigits (r.take (runD k r))
  | 0, _ => fun c hc => by simp [runD] at hc
  | _ + 1, [] => fun c hc => by simp [runD] at hc
  | k + 1, x :: r => fun c hc => by
    unfold runD at hc
    split at hc
    · rename_i h
      rw [List.take_succ_cons] at hc
      rcases List.mem_cons.mp hc with e | e
      · rw [e]
        exact isD_iff.mp h
      · exact runD_all k r c e
    · simp at hc
def dEnd (l : List Nat) (s : Nat) : Option Nat := match l.drop s with
  | c :: r => if isF c = true then some (s + 1 + runD 11 r) else none
  | [] => none
def iv (w : List Nat) : Int := match w with
  | 45 :: d => -((NumText.digitsVal d : Nat) : Int)
  | d => ((NumText.digitsVal d : Nat) : Int)
def cut (l : List Nat) (a b : Nat) : List Nat := (l.drop a).take (b - a)
def wAt (l : List Nat) (a : Nat) : Except Nat (Int × Nat) :=
  if l[a]? = some 48 then .ok (0, a + 1) else
  match dEnd l (if l[a]? = some 45 then a + 1 else a) with
  | some e => .ok (iv (cut l a e), e)
  | none => .error (if l[a]? = some 45 then a + 1 else a)
def rAt (l : List Nat) (a : Nat) : Except Nat (Int × Int × Nat) := match wAt l a with
  | .error s => .error s
  | .ok (n, e) => if l[e]? = some 47 then (match dEnd l (e + 1) with
    | some f => .ok (n, iv (cut l (e + 1) f), f)
    | none => .error (e + 1)) else .ok (n, 0, e)
def rdF (l : List Nat) : Except Nat (Int × Int) := match rAt l 0 with
  | .error s => .error s
  | .ok (n, d, e) => if e < l.length then .error e else if d = 1 ∨ (1 < d ∧ 1 < gi n d) then .error e else .ok (n, d)
/-- the law's scan -/
def sc (st m : Int) : List Nat → Nat → Int
  | [], p => if st = 2 ∨ st = 3 ∨ st = 5 then -1 else p
  | c :: r, p => if st = 0 ∧ c = 45 then sc 1 m r (p + 1)
    else if st = 0 ∧ c = 48 then sc 2 m r (p + 1)
    else if st < 2 ∧ isD c = true ∧ c ≠ 48 then sc 3 1 r (p + 1)
    else if st = 4 ∧ isD c = true ∧ c ≠ 48 then sc 5 1 r (p + 1)
    else if (st = 3 ∨ st = 5) ∧ isD c = true ∧ m < 12 then sc st (m + 1) r (p + 1)
    else if (st = 2 ∨ st = 3) ∧ c = 47 then sc 4 m r (p + 1)
    else p
theorem sc_cons (st m : Int) (c : Nat) (r : List Nat) (p : Nat) : sc st m (c :: r) p = if st = 0 ∧ c = 45 then sc 1 m r (p + 1)
    else if st = 0 ∧ c = 48 then sc 2 m r (p + 1)
    else if st < 2 ∧ isD c = true ∧ c ≠ 48 then sc 3 1 r (p + 1)
    else if st = 4 ∧ isD c = true ∧ c ≠ 48 then sc 5 1 r (p + 1)
    else if (st = 3 ∨ st = 5) ∧ isD c = true ∧ m < 12 then sc st (m + 1) r (p + 1)
    else if (st = 2 ∨ st = 3) ∧ c = 47 then sc 4 m r (p + 1)
    else p := by rw [sc]
theorem isDF {c : Nat} : isF c = true ↔ isD c = true ∧ c ≠ 48 := by
  rw [isD_iff, isF_iff]
  omega
theorem sc5 : ∀ (r : List Nat) (k m p : Nat), m + k = 12 → sc 5 m r p = if r.drop (runD k r) = [] then -1 else ((p + runD k r : Nat) : Int)
  | [], k, m, p, _ => by
    rw [runD_nil]
    simp [sc]
  | c :: r, k, m, p, h => by
    rw [sc_cons, if_neg (by omega), if_neg (by omega), if_neg (by omega), if_neg (by omega)]
    cases k with
    | zero =>
      rw [if_neg (by omega), if_neg (by omega)]
      simp [runD]
    | succ k =>
      unfold runD
      by_cases hd : isD c = true
      · rw [if_pos ⟨Or.inr rfl, hd, by omega⟩, if_pos hd]
        have ih := sc5 r k (m + 1) (p + 1) (by omega)
        rw [show ((m : Int) + 1) = ((m + 1 : Nat) : Int) by omega, ih]
        rw [List.drop_succ_cons]
        rw [show p + 1 + runD k r = p + (runD k r + 1) by omega]
      · rw [if_neg (fun z => hd z.2.1), if_neg (by omega), if_neg hd]
        simp
theorem sc4 (m : Int) (r : List Nat) (p : Nat) : sc 4 m r p = match r with
    | [] => (p : Int)
    | c :: r' => if isF c = true then sc 5 1 r' (p + 1) else p := by
  cases r with
  | nil => simp [sc]
  | cons c r =>
    show sc 4 m (c :: r) p = _
    rw [sc_cons, if_neg (by omega), if_neg (by omega), if_neg (by omega)]
    by_cases hf : isF c = true
    · rw [if_pos ⟨rfl, isDF.mp hf⟩]
      simp only [hf, if_true]
    · rw [if_neg (fun z => hf (isDF.mpr z.2)), if_neg (by omega), if_neg (by omega)]
      simp only [hf]
      rfl
def tailV (e : Nat) : List Nat → Int
  | [] => -1
  | c :: r' => if c = 47 then sc 4 0 r' (e + 1) else (e : Int)
theorem sc3 : ∀ (r : List Nat) (k m p : Nat), m + k = 12 → sc 3 m r p = tailV (p + runD k r) (r.drop (runD k r))
  | [], k, m, p, _ => by
    rw [runD_nil]
    simp [sc, tailV]
  | c :: r, k, m, p, h => by
    rw [sc_cons, if_neg (by omega), if_neg (by omega), if_neg (by omega), if_neg (by omega)]
    have stop : (¬ (((3 : Int) = 3 ∨ (3 : Int) = 5) ∧ isD c = true ∧ (m : Int) < 12)) → runD k (c :: r) = 0 → (if ((3 : Int) = 3 ∨ (3 : Int) = 5) ∧ isD c = true ∧ (m : Int) < 12 then sc 3 (m + 1) r (p + 1) else if ((3 : Int) = 2 ∨ (3 : Int) = 3) ∧ c = 47 then sc 4 m r (p + 1) else (p : Int)) =
        tailV (p + runD k (c :: r)) ((c :: r).drop (runD k (c :: r))) := fun h1 h2 => by
      rw [if_neg h1, h2]
      show _ = if c = 47 then sc 4 0 r (p + 0 + 1) else ((p + 0 : Nat) : Int)
      by_cases hc : c = 47
      · rw [if_pos ⟨Or.inr rfl, hc⟩, if_pos hc, sc4, sc4]
        all_goals rfl
      · rw [if_neg (fun z => hc z.2), if_neg hc]
        rfl
    cases k with
    | zero =>
      exact stop (by omega) rfl
    | succ k =>
      by_cases hd : isD c = true
      · rw [if_pos ⟨Or.inl rfl, hd, by omega⟩]
        have ih := sc3 r k (m + 1) (p + 1) (by omega)
        rw [show ((m : Int) + 1) = ((m + 1 : Nat) : Int) by omega, ih]
        have e : runD (k + 1) (c :: r) = runD k r + 1 := by
          show (if isD c = true then runD k r + 1 else 0) = _
          rw [if_pos hd]
        rw [e, List.drop_succ_cons, show p + 1 + runD k r = p + (runD k r + 1) by omega]
      · exact stop (fun z => hd z.2.1) (by
          show (if isD c = true then runD k r + 1 else 0) = _
          rw [if_neg hd])
/-! what a good text is -/
structure Dg (d : List Nat) : Prop where
  all : NumText.AllDigits d
  ne : d ≠ []
  le : d.length ≤ 12
def WOk (w : List Nat) : Prop := Dg w ∨ ∃ d, w = 45 :: d ∧ Dg d
theorem Dg.iv {d : List Nat} (h : Dg d) : iv d = ((NumText.digitsVal d : Nat) : Int) := by
  unfold K0.iv
  split
  · rename_i d'
    have := h.all 45 List.mem_cons_self
    omega
  · rfl
theorem S_tl (l : List Nat) : (SX.S l).cps.toList = l := rfl
theorem WOk.int {w : List Nat} (h : WOk w) : intText? (SX.S w) = some (iv w) := by
  rcases h with h | ⟨d, rfl, h⟩
  · rw [h.iv]
    exact intText_digits (x := SX.S w) h.all h.ne (by rw [SX.S_len]; have := h.le; omega)
  · exact intText_neg (x := SX.S (45 :: d)) rfl h.all h.ne (by rw [SX.S_len]; have := h.le; simp; omega)
theorem WOk.len {w : List Nat} (h : WOk w) : w.length ≤ 13 := by
  rcases h with h | ⟨d, rfl, h⟩
  · have := h.le
    omega
  · have := h.le
    simp
    omega
theorem WOk.free {w : List Nat} (h : WOk w) : 47 ∉ w := by
  have f : ∀ {d : List Nat}, Dg d → 47 ∉ d := fun {d} h z => by
    have := h.all 47 z
    omega
  rcases h with h | ⟨d, rfl, h⟩
  · exact f h
  · intro z
    rcases List.mem_cons.mp z with e | e
    · omega
    · exact f h e
theorem dEnd_at {l : List Nat} {s e : Nat} (h : dEnd l s = some e) : Dg (cut l s e) ∧ s < e ∧ e ≤ s + 12 ∧ e ≤ l.length ∧ ∃ c r, l.drop s = c :: r ∧ isF c = true ∧ e = s + 1 + runD 11 r := by
  unfold dEnd at h
  cases q : l.drop s with
  | nil =>
    rw [q] at h
    cases h
  | cons c r =>
    rw [q] at h
    have h1 : (if isF c = true then some (s + 1 + runD 11 r) else none) = some e := h
    by_cases hf : isF c = true
    · rw [if_pos hf] at h1
      cases h1
      have hl : (l.drop s).length = r.length + 1 := by rw [q]; rfl
      rw [List.length_drop] at hl
      have r1 := runD_le 11 r
      have r2 := runD_len 11 r
      have ec : cut l s (s + 1 + runD 11 r) = c :: r.take (runD 11 r) := by
        unfold cut
        rw [q, show s + 1 + runD 11 r - s = runD 11 r + 1 by omega, List.take_succ_cons]
      refine ⟨⟨?_, ?_, ?_⟩, by omega, by omega, by omega, c, r, rfl, hf, rfl⟩
      · rw [ec]
        intro x hx
        rcases List.mem_cons.mp hx with e | e
        · rw [e]
          have := isF_iff.mp hf
          omega
        · exact runD_all 11 r x e
      · rw [ec]
        simp
      · rw [ec, List.length_cons, List.length_take]
        omega
    · rw [if_neg hf] at h1
      cases h1
theorem digitsVal_lt : ∀ (d : List Nat), NumText.AllDigits d → ∀ a : Nat, d.foldl (fun acc c => acc * 10 + (c - 48)) a < (a + 1) * 10 ^ d.length
  | [], _, a => by simp
  | c :: r, h, a => by
    have hc := h.head
    have ih := digitsVal_lt r h.tail (a * 10 + (c - 48))
    rw [List.foldl_cons, List.length_cons, Nat.pow_succ]
    refine Nat.lt_of_lt_of_le ih ?_
    have : a * 10 + (c - 48) + 1 ≤ (a + 1) * 10 := by omega
    calc (a * 10 + (c - 48) + 1) * 10 ^ r.length ≤ ((a + 1) * 10) * 10 ^ r.length := Nat.mul_le_mul_right _ this
      _ = (a + 1) * (10 ^ r.length * 10) := by rw [Nat.mul_assoc, Nat.mul_comm 10]
theorem Dg.lt {d : List Nat} (h : Dg d) : NumText.digitsVal d < 10 ^ 12 := by
  have := digitsVal_lt d h.all 0
  unfold NumText.digitsVal
  refine Nat.lt_of_lt_of_le this ?_
  rw [Nat.one_mul]
  exact Nat.pow_le_pow_right (by decide) h.le
theorem sc2 (m : Int) (r : List Nat) (p : Nat) : sc 2 m r p = tailV p r := by
  cases r with
  | nil => simp [sc, tailV]
  | cons c r =>
    rw [sc_cons, if_neg (by omega), if_neg (by omega), if_neg (by omega), if_neg (by omega), if_neg (by omega)]
    show _ = if c = 47 then sc 4 0 r (p + 1) else (p : Int)
    by_cases hc : c = 47
    · rw [if_pos ⟨Or.inl rfl, hc⟩, if_pos hc, sc4, sc4]
    · rw [if_neg (fun z => hc z.2), if_neg hc]
theorem sc1 (m : Int) (r : List Nat) (p : Nat) : sc 1 m r p = match r with
    | [] => (p : Int)
    | c :: r' => if isF c = true then sc 3 1 r' (p + 1) else p := by
  cases r with
  | nil => simp [sc]
  | cons c r =>
    rw [sc_cons, if_neg (by omega), if_neg (by omega)]
    show _ = if isF c = true then sc 3 1 r (p + 1) else (p : Int)
    by_cases hf : isF c = true
    · rw [if_pos ⟨by decide, isDF.mp hf⟩, if_pos hf]
    · rw [if_neg (fun z => hf (isDF.mpr z.2)), if_neg (by omega), if_neg (by omega), if_neg (by omega), if_neg hf]
/-- how a good beginning goes on -/
def Concl (l : List Nat) (T : Int) : Prop := (∃ p : Nat, T = p ∧ rdF l = .error p) ∨ (T = -1 ∧ ∃ w, WOk w ∧ ((l = w ∧ rAt l 0 = .ok (iv w, 0, l.length)) ∨
  ∃ v, Dg v ∧ (∃ c r, v = c :: r ∧ isF c = true) ∧ l = w ++ 47 :: v ∧ rAt l 0 = .ok (iv w, iv v, l.length)))
theorem get_drop {l : List Nat} {e : Nat} {c : Nat} {r : List Nat} (h : l.drop e = c :: r) : l[e]? = some c := by
  have := List.getElem?_drop (xs := l) (i := e) (j := 0)
  rw [h] at this
  simpa using this.symm
theorem get_drop0 {l : List Nat} {e : Nat} (h : l.drop e = []) : l[e]? = none := by
  have := List.drop_eq_nil_iff.mp h
  exact List.getElem?_eq_none this
theorem tail_ok {l w R : List Nat} {e : Nat} (hw : wAt l 0 = .ok (iv w, e)) (hl : l = w ++ R) (he : w.length = e) (wok : WOk w) :
    Concl l (tailV e R) := by
  have hd : l.drop e = R := by rw [hl, ← he, List.drop_left]
  have hlen : l.length = e + R.length := by rw [hl, List.length_append, he]
  cases R with
  | nil =>
    refine .inr ⟨rfl, w, wok, .inl ⟨by rw [hl, List.append_nil], ?_⟩⟩
    unfold rAt
    rw [hw]
    show (if l[e]? = some 47 then _ else _) = _
    rw [get_drop0 hd, if_neg (by simp)]
    simp at hlen
    rw [hlen]
  | cons c r =>
    have hc := get_drop hd
    show Concl l (if c = 47 then sc 4 0 r (e + 1) else (e : Int))
    by_cases h47 : c = 47
    · rw [if_pos h47]
      have hd1 : l.drop (e + 1) = r := by
        rw [← List.drop_drop, hd]
        rfl
      have rA : rAt l 0 = (match dEnd l (e + 1) with
        | some f => .ok (iv w, iv (cut l (e + 1) f), f)
        | none => .error (e + 1)) := by
        unfold rAt
        rw [hw]
        show (if l[e]? = some 47 then _ else _) = _
        rw [hc, h47, if_pos rfl]
      rw [sc4]
      cases r with
      | nil =>
        refine .inl ⟨e + 1, rfl, ?_⟩
        unfold rdF
        have : dEnd l (e + 1) = none := by
          unfold dEnd
          rw [hd1]
        rw [rA, this]
      | cons x r =>
        show Concl l (if isF x = true then sc 5 1 r (e + 1 + 1) else ((e + 1 : Nat) : Int))
        by_cases hf : isF x = true
        · rw [if_pos hf]
          have dE : dEnd l (e + 1) = some (e + 1 + 1 + runD 11 r) := by
            unfold dEnd
            rw [hd1]
            show (if isF x = true then _ else _) = _
            rw [if_pos hf]
          rw [dE] at rA
          have s5 := sc5 r 11 1 (e + 1 + 1) rfl
          rw [show ((1 : Nat) : Int) = 1 from rfl] at s5
          rw [s5]
          have dg := dEnd_at dE
          by_cases hR : r.drop (runD 11 r) = []
          · rw [if_pos hR]
            have hz : runD 11 r = r.length := by
              have a := List.drop_eq_nil_iff.mp hR
              have b := runD_len 11 r
              omega
            have hll : l.length = e + 1 + 1 + runD 11 r := by
              rw [hlen, hz]
              simp
              omega
            have ec : cut l (e + 1) (e + 1 + 1 + runD 11 r) = x :: r := by
              unfold cut
              rw [hd1, show e + 1 + 1 + runD 11 r - (e + 1) = runD 11 r + 1 by omega, List.take_succ_cons, hz, List.take_length]
            refine .inr ⟨rfl, w, wok, .inr ⟨x :: r, ?_, ⟨x, r, rfl, hf⟩, ?_, ?_⟩⟩
            · rw [← ec]
              exact dg.1
            · rw [hl, h47]
            · rw [rA, hll]
              show Except.ok (iv w, iv (cut l (e + 1) (e + 1 + 1 + runD 11 r)), e + 1 + 1 + runD 11 r) = _
              rw [ec]
          · rw [if_neg hR]
            refine .inl ⟨_, rfl, ?_⟩
            unfold rdF
            rw [rA]
            have hlt : e + 1 + 1 + runD 11 r < l.length := by
              rw [hlen]
              have : ¬ r.length ≤ runD 11 r := fun z => hR (List.drop_eq_nil_iff.mpr z)
              simp
              omega
            show (if e + 1 + 1 + runD 11 r < l.length then _ else _) = _
            rw [if_pos hlt]
        · rw [if_neg hf]
          refine .inl ⟨e + 1, rfl, ?_⟩
          unfold rdF
          have : dEnd l (e + 1) = none := by
            unfold dEnd
            rw [hd1]
            show (if isF x = true then _ else _) = _
            rw [if_neg hf]
          rw [rA, this]
    · rw [if_neg h47]
      refine .inl ⟨e, rfl, ?_⟩
      unfold rdF rAt
      rw [hw]
      show (match (if l[e]? = some 47 then _ else (Except.ok (iv w, 0, e) : Except Nat (Int × Int × Nat))) with
        | .error s => .error s
        | .ok (n, d, e) => if e < l.length then .error e else if d = 1 ∨ (1 < d ∧ 1 < gi n d) then .error e else .ok (n, d)) = (Except.error e : Except Nat (Int × Int))
      rw [hc, if_neg (by simpa using h47)]
      show (if e < l.length then _ else _) = _
      rw [if_pos (by rw [hlen]; simp)]
theorem scan_read (l : List Nat) : Concl l (sc 0 0 l 0) := by
  cases l with
  | nil => exact .inl ⟨0, rfl, rfl⟩
  | cons c r =>
    rw [sc_cons]
    by_cases h45 : c = 45
    · subst h45
      rw [if_pos ⟨rfl, rfl⟩, sc1]
      have g48 : ¬ (45 :: r)[0]? = some 48 := by simp
      have g45 : (45 :: r)[0]? = some 45 := rfl
      cases r with
      | nil => exact .inl ⟨1, rfl, rfl⟩
      | cons x r =>
        show Concl _ (if isF x = true then sc 3 1 r (0 + 1 + 1) else ((0 + 1 : Nat) : Int))
        by_cases hf : isF x = true
        · rw [if_pos hf]
          have s3 := sc3 r 11 1 (0 + 1 + 1) rfl
          rw [show ((1 : Nat) : Int) = 1 from rfl] at s3
          rw [s3]
          have dE : dEnd (45 :: x :: r) 1 = some (1 + 1 + runD 11 r) := by
            unfold dEnd
            show (if isF x = true then _ else _) = _
            rw [if_pos hf]
          have dg := dEnd_at dE
          have ec : cut (45 :: x :: r) 1 (1 + 1 + runD 11 r) = x :: r.take (runD 11 r) := by
            unfold cut
            rw [show (45 :: x :: r).drop 1 = x :: r from rfl, show 1 + 1 + runD 11 r - 1 = runD 11 r + 1 by omega, List.take_succ_cons]
          have ec0 : cut (45 :: x :: r) 0 (1 + 1 + runD 11 r) = 45 :: x :: r.take (runD 11 r) := by
            unfold cut
            rw [show (45 :: x :: r).drop 0 = 45 :: x :: r from rfl, show 1 + 1 + runD 11 r - 0 = runD 11 r + 1 + 1 by omega, List.take_succ_cons, List.take_succ_cons]
          have hw : wAt (45 :: x :: r) 0 = .ok (iv (45 :: x :: r.take (runD 11 r)), 1 + 1 + runD 11 r) := by
            unfold wAt
            rw [if_neg (by simp), show (45 :: x :: r)[0]? = some 45 from rfl, if_pos rfl]
            show (match dEnd (45 :: x :: r) 1 with | some e => Except.ok (iv (cut (45 :: x :: r) 0 e), e) | none => .error 1) = _
            rw [dE]
            show Except.ok (iv (cut (45 :: x :: r) 0 (1 + 1 + runD 11 r)), 1 + 1 + runD 11 r) = _
            rw [ec0]
          have rl := runD_len 11 r
          have t := tail_ok (l := 45 :: x :: r) (w := 45 :: x :: r.take (runD 11 r)) (R := r.drop (runD 11 r)) hw (by simp) (by simp; omega) (.inr ⟨_, rfl, by rw [← ec]; exact dg.1⟩)
          exact t
        · rw [if_neg hf]
          refine .inl ⟨1, rfl, ?_⟩
          have : dEnd (45 :: x :: r) 1 = none := by
            unfold dEnd
            show (if isF x = true then _ else _) = _
            rw [if_neg hf]
          have hw : wAt (45 :: x :: r) 0 = .error 1 := by
            unfold wAt
            rw [if_neg (by simp), show (45 :: x :: r)[0]? = some 45 from rfl, if_pos rfl]
            show (match dEnd (45 :: x :: r) 1 with | some e => Except.ok (iv (cut (45 :: x :: r) 0 e), e) | none => .error 1) = _
            rw [this]
          unfold rdF rAt
          rw [hw]
    · rw [if_neg (fun z => h45 z.2)]
      by_cases h48 : c = 48
      · subst h48
        rw [if_pos ⟨rfl, rfl⟩, sc2]
        have hw : wAt (48 :: r) 0 = .ok (iv [48], 0 + 1) := rfl
        exact tail_ok (l := 48 :: r) (w := [48]) (R := r) hw rfl rfl (.inl ⟨fun c hc => by rw [List.mem_singleton.mp hc]; omega, by simp, by decide⟩)
      · rw [if_neg (fun z => h48 z.2)]
        have g48 : ¬ (c :: r)[0]? = some 48 := by simpa using h48
        have g45 : ¬ (c :: r)[0]? = some 45 := by simpa using h45
        by_cases hf : isF c = true
        · rw [if_pos ⟨by decide, isDF.mp hf⟩]
          have s3 := sc3 r 11 1 (0 + 1) rfl
          rw [show ((1 : Nat) : Int) = 1 from rfl] at s3
          rw [s3]
          have dE : dEnd (c :: r) 0 = some (0 + 1 + runD 11 r) := by
            unfold dEnd
            show (if isF c = true then _ else _) = _
            rw [if_pos hf]
          have dg := dEnd_at dE
          have ec : cut (c :: r) 0 (0 + 1 + runD 11 r) = c :: r.take (runD 11 r) := by
            unfold cut
            rw [show (c :: r).drop 0 = c :: r from rfl, show 0 + 1 + runD 11 r - 0 = runD 11 r + 1 by omega, List.take_succ_cons]
          have hw : wAt (c :: r) 0 = .ok (iv (c :: r.take (runD 11 r)), 0 + 1 + runD 11 r) := by
            unfold wAt
            rw [if_neg g48, if_neg g45, dE]
            show Except.ok (iv (cut (c :: r) 0 (0 + 1 + runD 11 r)), 0 + 1 + runD 11 r) = _
            rw [ec]
          have rl := runD_len 11 r
          exact tail_ok (l := c :: r) (w := c :: r.take (runD 11 r)) (R := r.drop (runD 11 r)) hw (by simp) (by simp; omega) (.inl (by rw [← ec]; exact dg.1))
        · rw [if_neg (fun z => hf (isDF.mpr z.2)), if_neg (by omega), if_neg (by omega), if_neg (by omega)]
          refine .inl ⟨0, rfl, ?_⟩
          have : dEnd (c :: r) 0 = none := by
            unfold dEnd
            show (if isF c = true then _ else _) = _
            rw [if_neg hf]
          unfold rdF rAt wAt
          rw [if_neg g48, if_neg g45, this]
/-! the promises -/
def BadE (K : PySem.W.Frag) (E : XK) (H : Hp) (s : Nat) : Prop := ∀ H' d, Same H H' → XdAt H' d [("at", .int (s : Nat))] → E (.ref (ga K "BadText")) (some d) H'
theorem BadE.same {K : PySem.W.Frag} {E : XK} {H H' : Hp} {s : Nat} (e : Same H H') (b : BadE K E H s) : BadE K E H' s := fun H2 d h x => b H2 d (e.trans h) x
abbrev chs (z : Str) : List Nat := z.cps.toList
def sp_digits_end (K : PySem.W.Frag) : Sp := fun vs H Q E => ∃ (z : Str) (s : Nat), vs = [.str z, .int (s : Nat)] ∧ z.length ≤ 1000 ∧ (∀ e, dEnd (chs z) s = some e → Q (.int (e : Nat)) H) ∧ (dEnd (chs z) s = none → BadE K E H s)
def sp_whole_at (K : PySem.W.Frag) : Sp := fun vs H Q E => ∃ (z : Str) (a : Nat), vs = [.str z, .int (a : Nat)] ∧ z.length ≤ 1000 ∧
  (∀ n e, wAt (chs z) a = .ok (n, e) → ∀ q, H q = none → Q (.ref q) (upd H q (.tup [.int n, .int (e : Nat)]))) ∧ (∀ s, wAt (chs z) a = .error s → BadE K E H s)
def sp_ratio_at (K : PySem.W.Frag) : Sp := fun vs H Q E => ∃ (z : Str) (a : Nat), vs = [.str z, .int (a : Nat)] ∧ z.length ≤ 1000 ∧
  (∀ n d e, rAt (chs z) a = .ok (n, d, e) → ∀ H' q, Same H H' → SqT K H' q [.int n, .int d, .int (e : Nat)] → Q (.ref q) H') ∧ (∀ s, rAt (chs z) a = .error s → BadE K E H s)
def sp_look_ratio (K : PySem.W.Frag) : Sp := fun vs H Q E => ∃ (n d : Int) (e : Nat), vs = [.int n, .int d, .int (e : Nat)] ∧ (¬ (d = 1 ∨ (1 < d ∧ 1 < gi n d)) → Q .non H) ∧ (d = 1 ∨ (1 < d ∧ 1 < gi n d) → BadE K E H e)
def sp_Frac_read (K : PySem.W.Frag) : Sp := fun vs H Q E => ∃ z : Str, vs = [.str z] ∧ z.length ≤ 1000 ∧
  (∀ n d, rdF (chs z) = .ok (n, d) → ∀ H' q, Same H H' → FracAt K H' q (lowN n (if d = 0 then 1 else d)) (lowD n (if d = 0 then 1 else d)) → Q (.ref q) H') ∧ (∀ s, rdF (chs z) = .error s → BadE K E H s)
def sp__law_scan (K : PySem.W.Frag) : Sp := fun vs H Q _ => ∃ z : Str, vs = [.str z] ∧ z.length ≤ 1000 ∧ Q (.int (sc 0 0 (chs z) 0)) H
def sp__law_reads (K : PySem.W.Frag) : Sp := fun vs H Q _ => ∃ z : Str, vs = [.str z] ∧ z.length ≤ 600 ∧ ∀ H', Same H H' → Q (.bl true) H'
theorem chs_len (z : Str) : (chs z).length = z.length := Array.length_toList
theorem cutS_nat (z : Str) (a b : Nat) : cutS z (some (a : Int)) (some (b : Int)) = SX.S (cut (chs z) a b) := by
  unfold cutS
  rw [HT.sIx_nat, HT.sIx_nat]
  show SX.S _ = SX.S _
  congr 1
  unfold cut
  have hl := chs_len z
  refine List.ext_getElem? fun i => ?_
  rw [List.getElem?_take, List.getElem?_take, List.getElem?_drop, List.getElem?_drop]
  by_cases ha : a ≤ z.length
  · rw [Nat.min_eq_left ha]
    by_cases hi : i < b - a
    · rw [if_pos hi]
      by_cases hb : b ≤ z.length
      · rw [Nat.min_eq_left hb, if_pos hi]
      · rw [Nat.min_eq_right (by omega)]
        by_cases h2 : i < z.length - a
        · rw [if_pos h2]
        · rw [if_neg h2]
          exact (List.getElem?_eq_none (by rw [hl]; omega)).symm
    · rw [if_neg hi, if_neg (by omega)]
  · have e1 : min a z.length = z.length := by omega
    have e2 : ¬ i < min b z.length - z.length := by omega
    rw [e1, if_neg e2]
    split
    · exact (List.getElem?_eq_none (by rw [hl]; omega)).symm
    · rfl
theorem cut1 (l : List Nat) (a : Nat) : cut l a (a + 1) = match l[a]? with
    | some c => [c]
    | none => [] := by
  unfold cut
  rw [show a + 1 - a = 1 by omega]
  cases h : l.drop a with
  | nil =>
    rw [get_drop0 h]
    rfl
  | cons c r =>
    rw [get_drop h]
    rfl
/-! tests whose answer is known -/
theorem and_rd {t u : TT} {σ : L2.St} {H : Hp} {Q : Bool → Hp → Prop} {a b : Bool} (ht : ∀ Q' : Bool → Hp → Prop, Q' a H → t σ H Q') (hu : ∀ Q' : Bool → Hp → Prop, Q' b H → u σ H Q') (q : Q (a && b) H) : tAnd t u σ H Q := by
  refine ht _ ?_
  cases a with
  | true => exact iteT (hu _ q)
  | false => exact iteF q
theorem or_rd {t u : TT} {σ : L2.St} {H : Hp} {Q : Bool → Hp → Prop} {a b : Bool} (ht : ∀ Q' : Bool → Hp → Prop, Q' a H → t σ H Q') (hu : ∀ Q' : Bool → Hp → Prop, Q' b H → u σ H Q') (q : Q (a || b) H) : tOr t u σ H Q := by
  refine ht _ ?_
  cases a with
  | true => exact iteT q
  | false => exact iteF (hu _ q)
def Mono (t : TT) : Prop := ∀ (σ : L2.St) (H : Hp) (Q Q' : Bool → Hp → Prop), (∀ b H1, Q b H1 → Q' b H1) → t σ H Q → t σ H Q'
theorem mono_and {t u : TT} (ht : Mono t) (hu : Mono u) : Mono (tAnd t u) := fun σ H Q Q' i h => by
  refine ht σ H _ _ (fun b H1 q => ?_) h
  cases b with
  | true => exact iteT (hu σ H1 Q Q' i (by simpa using q))
  | false => exact iteF (i _ _ (by simpa using q))
def oneL : Option Nat → List Nat
  | some c => [c]
  | none => []
theorem ch_eq (o : Option Nat) (k : Nat) : decide (V.str (SX.S (oneL o)) = V.str (SX.S [k])) = decide (o = some k) := by
  refine decide_eq_decide.mpr ⟨fun h => ?_, fun h => ?_⟩
  · have z : oneL o = [k] := SX.S_inj (V.str.inj h)
    cases o with
    | none => cases z
    | some c =>
      cases z
      rfl
  · rw [h]
    rfl
theorem cut1' (l : List Nat) (a : Nat) : cut l a (a + 1) = oneL l[a]? := by
  rw [cut1]
  cases l[a]? <;> rfl
theorem cut_cons {l : List Nat} {a e c : Nat} (h : l[a]? = some c) (ha : a < e) : cut l a e = c :: cut l (a + 1) e := by
  unfold cut
  obtain ⟨hl, hc⟩ := List.getElem?_eq_some_iff.mp h
  rw [List.drop_eq_getElem_cons hl, hc, show e - a = (e - (a + 1)) + 1 by omega, List.take_succ_cons]
theorem rAt_den {l : List Nat} {a : Nat} {n d : Int} {e : Nat} (h : rAt l a = .ok (n, d, e)) : 0 ≤ d ∧ d < 1000000000000 := by
  unfold rAt at h
  cases q : wAt l a with
  | error s =>
    rw [q] at h
    cases h
  | ok r =>
    obtain ⟨n', e'⟩ := r
    rw [q] at h
    have h1 : (if l[e']? = some 47 then (match dEnd l (e' + 1) with
      | some f => .ok (n', iv (cut l (e' + 1) f), f)
      | none => .error (e' + 1)) else .ok (n', 0, e')) = (Except.ok (n, d, e) : Except Nat (Int × Int × Nat)) := h
    by_cases c : l[e']? = some 47
    · rw [if_pos c] at h1
      cases qd : dEnd l (e' + 1) with
      | none =>
        rw [qd] at h1
        cases h1
      | some f =>
        rw [qd] at h1
        cases h1
        have dg := (dEnd_at qd).1
        rw [dg.iv]
        have := dg.lt
        have e12 : (10 : Nat) ^ 12 = 1000000000000 := by decide
        omega
    · rw [if_neg c] at h1
      cases h1
      omega
/-! Frac.read in a try's body: what it lets out is told of the state it stands in -/
theorem pe_calSS {X : Cx} {k n : Nat} {x m : Str} {ps : List Str} {sp : Sp} {E : L2.St → XK} {p pos apos : Pos} {e : Expr} {es : List Expr} {t : TA} (C : CalS X.prog X.w X.K X.mg X.base k x m ps sp) (hr : Room n X.A) (hx : ∀ σ, PassesAt (L2.CX X.prog X.w) X σ (E σ)) (ha : PA X (e :: es) t) {pl : Sem Bool} (hkn : k ≤ n := by decide) (hg : Gl X x := by rfl) (hdb : (x == ("__debug__" : Str)) = false := by decide)
    (hst : starEach (e :: es) X.env = (false, eval e X.env) :: starEach es X.env := by rfl) (hpl : (backTo pos (starEach es X.env)).any (·.1) = false := by rfl)
    (ht : eval (.Call (.Attribute (.Name x p) m apos) (e :: es) [] pos) X.env = (do
      let ov ← eval (.Name x p) X.env
      standAt apos.atName
      let (f, first) ← holding [ov] (getMethod ov m pl)
      callWith pos f first (backTo pos (starEach (e :: es) X.env)) (backToKw pos (keywordEach [] X.env))) := by rfl) : PE X (.Call (.Attribute (.Name x p) m apos) (e :: es) [] pos) (tCallS sp E t) := by
  refine ⟨fun pins s σ H Q I h => ?_⟩
  refine PySem.W.methodCall_KW (pl := pl) (ld_glob I hg C.at_ ?_ hdb) ht
  refine getstat I C.st fun s1 I1 => ?_
  refine PySem.W.callWith_K (h₀ := X.base) (first := []) I1.ok.mod.kin C.st.kp (thn (ha.run pos pins s1 σ H _ I1 h) fun us s2 ⟨vs, H1, I2, r, q⟩ => ⟨I2.kIn, ?_⟩) hst hpl
  exact run_fnS C.ok (hr.mono hkn) C.b (hx σ) I2 r q
end K0
namespace K0
open PySem PySem.Spec PyProof.Rows L2 He HX KF
section
variable {w : World} {K : PySem.W.Frag} {mg : Str → Option Value} {base : Heap}
theorem sx_DivisionByZero : SupScope ps_X_DivisionByZero ps_X_DivisionByZero (defScope (inClass (top 3) 0)) := ⟨rfl, rfl, rfl, by decide +kernel, rfl, by decide +kernel, by decide +kernel, by decide +kernel, by decide +kernel, by decide +kernel⟩
theorem ok_X_DivisionByZero (h : HK K mg) : CalX PR w K mg base 1 "DivisionByZero" ps_X_DivisionByZero (sp_X_DivisionByZero K) := by
  obtain ⟨cc, cda, oc, od, kV, doc, pm, an, ct, osl, ef, lk, hcd, T⟩ := h.init "DivisionByZero" 54 (d := x_DivisionByZero) rfl rfl rfl rfl
  have ee := h.ef "DivisionByZero"
  have G : FnOk PR w K mg base (L2.CX PR w) (0 + 1) (ma K (ga K "DivisionByZero") "__init__") (PySem.W.fnX "__init__" "DivisionByZero.__init__" (defArgs (inClass (top 3) 0)) (defBody (inClass (top 3) 0)) (defScope (inClass (top 3) 0)) [("__class__", cc)] .none kV doc pm an (.ref cda) ct) ps_X_DivisionByZero (sp_X_DivisionByZero K) := by
    refine fn_ofS (pa := ⟨0, 0, 0, 0⟩) lk hcd sx_DivisionByZero rfl ⟨_, _, rfl⟩ T (fun L => ⟨_, rfl⟩) (fun vs H Q E hs => by (repeat (obtain ⟨_, hs⟩ := hs)) <;> subst_vars <;> rfl) (fun vs H Q E hs => ?_) (fun A outer s H vs Q E hr hs => ?_)
    · obtain ⟨a, rfl, ha, _⟩ := hs
      exact ⟨a, [], rfl, ha⟩
    · obtain ⟨a, rfl, ha, hq⟩ := hs
      exact ⟨_, pss_nil, hq⟩
  have ef2 : fdA K (ma K (ga K "DivisionByZero") "__init__") = PySem.W.fnX "__init__" "DivisionByZero.__init__" (defArgs (inClass (top 3) 0)) (defBody (inClass (top 3) 0)) (defScope (inClass (top 3) 0)) [("__class__", cc)] .none kV doc pm an (.ref cda) ct := ef
  refine ⟨by rw [ef2]; exact G, h.glo "DivisionByZero", ee, ?_⟩
  rw [ef2]
  exact .all fun us hl => match us, hl with | [_], _ => rfl
theorem sx_BadText : SupScope ps_X_BadText ps_X_BadText (defScope (inClass (top 4) 0)) := ⟨rfl, rfl, rfl, by decide +kernel, rfl, by decide +kernel, by decide +kernel, by decide +kernel, by decide +kernel, by decide +kernel⟩
theorem ok_X_BadText (h : HK K mg) : CalX PR w K mg base 1 "BadText" ps_X_BadText (sp_X_BadText K) := by
  obtain ⟨cc, cda, oc, od, kV, doc, pm, an, ct, osl, ef, lk, hcd, T⟩ := h.init "BadText" 55 (d := x_BadText) rfl rfl rfl rfl
  have ee := h.ef "BadText"
  have G : FnOk PR w K mg base (L2.CX PR w) (0 + 1) (ma K (ga K "BadText") "__init__") (PySem.W.fnX "__init__" "BadText.__init__" (defArgs (inClass (top 4) 0)) (defBody (inClass (top 4) 0)) (defScope (inClass (top 4) 0)) [("__class__", cc)] .none kV doc pm an (.ref cda) ct) ps_X_BadText (sp_X_BadText K) := by
    refine fn_ofS (pa := ⟨0, 0, 0, 0⟩) lk hcd sx_BadText rfl ⟨_, _, rfl⟩ T (fun L => ⟨_, rfl⟩) (fun vs H Q E hs => by (repeat (obtain ⟨_, hs⟩ := hs)) <;> subst_vars <;> rfl) (fun vs H Q E hs => ?_) (fun A outer s H vs Q E hr hs => ?_)
    · obtain ⟨a, y, rfl, ha, _⟩ := hs
      exact ⟨a, [y], rfl, ha⟩
    · obtain ⟨a, y, rfl, ha, hq⟩ := hs
      refine ⟨_, pss_one (ps_ost (pv 0) (pv 1)), ?_⟩
      refine ⟨_, rfl, _, rfl, a, _, rfl, ee.oex, h.fld "BadText" "at", .inl ⟨ha, fun dx nd ne => ?_⟩⟩
      refine hq _ dx (fun b o n q => ?_) upd_same nd ne (by rw [upd_ne ne, upd_same])
      rw [upd_ne n, upd_ne (ne_of_none q nd)]
      exact q
  have ef2 : fdA K (ma K (ga K "BadText") "__init__") = PySem.W.fnX "__init__" "BadText.__init__" (defArgs (inClass (top 4) 0)) (defBody (inClass (top 4) 0)) (defScope (inClass (top 4) 0)) [("__class__", cc)] .none kV doc pm an (.ref cda) ct := ef
  refine ⟨by rw [ef2]; exact G, h.glo "BadText", ee, ?_⟩
  rw [ef2]
  exact .all fun us hl => match us, hl with | [_, _], _ => rfl
theorem sx_BadSize : SupScope ps_X_BadSize ps_X_BadSize (defScope (inClass (top 5) 0)) := ⟨rfl, rfl, rfl, by decide +kernel, rfl, by decide +kernel, by decide +kernel, by decide +kernel, by decide +kernel, by decide +kernel⟩
theorem ok_X_BadSize (h : HK K mg) : CalX PR w K mg base 1 "BadSize" ps_X_BadSize (sp_X_BadSize K) := by
  obtain ⟨cc, cda, oc, od, kV, doc, pm, an, ct, osl, ef, lk, hcd, T⟩ := h.init "BadSize" 56 (d := x_BadSize) rfl rfl rfl rfl
  have ee := h.ef "BadSize"
  have G : FnOk PR w K mg base (L2.CX PR w) (0 + 1) (ma K (ga K "BadSize") "__init__") (PySem.W.fnX "__init__" "BadSize.__init__" (defArgs (inClass (top 5) 0)) (defBody (inClass (top 5) 0)) (defScope (inClass (top 5) 0)) [("__class__", cc)] .none kV doc pm an (.ref cda) ct) ps_X_BadSize (sp_X_BadSize K) := by
    refine fn_ofS (pa := ⟨0, 0, 0, 0⟩) lk hcd sx_BadSize rfl ⟨_, _, rfl⟩ T (fun L => ⟨_, rfl⟩) (fun vs H Q E hs => by (repeat (obtain ⟨_, hs⟩ := hs)) <;> subst_vars <;> rfl) (fun vs H Q E hs => ?_) (fun A outer s H vs Q E hr hs => ?_)
    · obtain ⟨a, y, rfl, ha, _⟩ := hs
      exact ⟨a, [y], rfl, ha⟩
    · obtain ⟨a, y, rfl, ha, hq⟩ := hs
      refine ⟨_, pss_one (ps_ost (pv 0) (pv 1)), ?_⟩
      refine ⟨_, rfl, _, rfl, a, _, rfl, ee.oex, h.fld "BadSize" "size", .inl ⟨ha, fun dx nd ne => ?_⟩⟩
      refine hq _ dx (fun b o n q => ?_) upd_same nd ne (by rw [upd_ne ne, upd_same])
      rw [upd_ne n, upd_ne (ne_of_none q nd)]
      exact q
  have ef2 : fdA K (ma K (ga K "BadSize") "__init__") = PySem.W.fnX "__init__" "BadSize.__init__" (defArgs (inClass (top 5) 0)) (defBody (inClass (top 5) 0)) (defScope (inClass (top 5) 0)) [("__class__", cc)] .none kV doc pm an (.ref cda) ct := ef
  refine ⟨by rw [ef2]; exact G, h.glo "BadSize", ee, ?_⟩
  rw [ef2]
  exact .all fun us hl => match us, hl with | [_, _], _ => rfl
theorem sx_BadSizes : SupScope ps_X_BadSizes ps_X_BadSizes (defScope (inClass (top 6) 0)) := ⟨rfl, rfl, rfl, by decide +kernel, rfl, by decide +kernel, by decide +kernel, by decide +kernel, by decide +kernel, by decide +kernel⟩
theorem ok_X_BadSizes (h : HK K mg) : CalX PR w K mg base 1 "BadSizes" ps_X_BadSizes (sp_X_BadSizes K) := by
  obtain ⟨cc, cda, oc, od, kV, doc, pm, an, ct, osl, ef, lk, hcd, T⟩ := h.init "BadSizes" 57 (d := x_BadSizes) rfl rfl rfl rfl
  have ee := h.ef "BadSizes"
  have G : FnOk PR w K mg base (L2.CX PR w) (0 + 1) (ma K (ga K "BadSizes") "__init__") (PySem.W.fnX "__init__" "BadSizes.__init__" (defArgs (inClass (top 6) 0)) (defBody (inClass (top 6) 0)) (defScope (inClass (top 6) 0)) [("__class__", cc)] .none kV doc pm an (.ref cda) ct) ps_X_BadSizes (sp_X_BadSizes K) := by
    refine fn_ofS (pa := ⟨0, 0, 0, 0⟩) lk hcd sx_BadSizes rfl ⟨_, _, rfl⟩ T (fun L => ⟨_, rfl⟩) (fun vs H Q E hs => by (repeat (obtain ⟨_, hs⟩ := hs)) <;> subst_vars <;> rfl) (fun vs H Q E hs => ?_) (fun A outer s H vs Q E hr hs => ?_)
    · obtain ⟨a, y, z, rfl, ha, _⟩ := hs
      exact ⟨a, [y, z], rfl, ha⟩
    · obtain ⟨a, y, z, rfl, ha, hq⟩ := hs
      refine ⟨_, pss_cons (ps_ost (pv 0) (pv 1)) (pss_one (ps_ost (pv 0) (pv 2))), ?_⟩
      refine ⟨_, rfl, _, rfl, a, _, rfl, ee.oex, h.fld "BadSizes" "given", .inl ⟨ha, fun dx nd ne => ?_⟩⟩
      have e1 : (upd (upd H dx (exd dx [("given", y)])) a (exo a (ga K "BadSizes") (some dx))) dx = some (exd dx [("given", y)]) := by rw [upd_ne ne, upd_same]
      refine ⟨_, rfl, _, rfl, a, _, rfl, ee.oex, h.fld "BadSizes" "wanted", .inr ⟨dx, _, upd_same, e1, (show (1 : Nat) ≤ 900 by decide), ?_⟩⟩
      refine hq _ dx (fun b o n q => ?_) ?_ nd ne upd_same
      · rw [upd_ne (ne_of_none q nd), upd_ne n, upd_ne (ne_of_none q nd)]
        exact q
      · rw [upd_ne (Ne.symm ne), upd_same]
  have ef2 : fdA K (ma K (ga K "BadSizes") "__init__") = PySem.W.fnX "__init__" "BadSizes.__init__" (defArgs (inClass (top 6) 0)) (defBody (inClass (top 6) 0)) (defScope (inClass (top 6) 0)) [("__class__", cc)] .none kV doc pm an (.ref cda) ct := ef
  refine ⟨by rw [ef2]; exact G, h.glo "BadSizes", ee, ?_⟩
  rw [ef2]
  exact .all fun us hl => match us, hl with | [_, _, _], _ => rfl
theorem sx_BadPlace : SupScope ps_X_BadPlace ps_X_BadPlace (defScope (inClass (top 7) 0)) := ⟨rfl, rfl, rfl, by decide +kernel, rfl, by decide +kernel, by decide +kernel, by decide +kernel, by decide +kernel, by decide +kernel⟩
theorem ok_X_BadPlace (h : HK K mg) (c_copied : Cal PR w K mg base 2 "copied" ["value"] (sp_copied K)) : CalX PR w K mg base 3 "BadPlace" ps_X_BadPlace (sp_X_BadPlace K) := by
  obtain ⟨cc, cda, oc, od, kV, doc, pm, an, ct, osl, ef, lk, hcd, T⟩ := h.init "BadPlace" 58 (d := x_BadPlace) rfl rfl rfl rfl
  have ee := h.ef "BadPlace"
  have G : FnOk PR w K mg base (L2.CX PR w) (2 + 1) (ma K (ga K "BadPlace") "__init__") (PySem.W.fnX "__init__" "BadPlace.__init__" (defArgs (inClass (top 7) 0)) (defBody (inClass (top 7) 0)) (defScope (inClass (top 7) 0)) [("__class__", cc)] .none kV doc pm an (.ref cda) ct) ps_X_BadPlace (sp_X_BadPlace K) := by
    refine fn_ofS (pa := ⟨0, 0, 0, 0⟩) lk hcd sx_BadPlace rfl ⟨_, _, rfl⟩ T (fun L => ⟨_, rfl⟩) (fun vs H Q E hs => by (repeat (obtain ⟨_, hs⟩ := hs)) <;> subst_vars <;> rfl) (fun vs H Q E hs => ?_) (fun A outer s H vs Q E hr hs => ?_)
    · obtain ⟨a, y, _, rfl, ha, _⟩ := hs
      exact ⟨a, [y], rfl, ha⟩
    · obtain ⟨a, y, c, rfl, ha, hc, hq⟩ := hs
      refine ⟨_, pss_one (ps_ost (pv 0) (pe_cal c_copied hr passL (pa_cons (pv 1) pa_nil))), ?_⟩
      refine ⟨_, rfl, y, c, rfl, hc, fun H1 y1 s1 r1 => ?_⟩
      refine ⟨_, rfl, a, _, rfl, ee.oex, h.fld "BadPlace" "place", .inl ⟨s1 _ _ ha, fun dx nd ne => ?_⟩⟩
      have nd0 : H dx = none := s1.free nd
      have keep : ∀ b o, b ≠ a → H1 b = some o → (upd (upd H1 dx (exd dx [("place", y1)])) a (exo a (ga K "BadPlace") (some dx))) b = some o := fun b o n q => by
        rw [upd_ne n, upd_ne (ne_of_none q nd)]
        exact q
      refine hq _ dx y1 (fun b o n q => keep b o n (s1 _ _ q)) upd_same nd0 ne (by rw [upd_ne ne, upd_same]) (r1.keep (s1 _ _ ha) keep)
  have ef2 : fdA K (ma K (ga K "BadPlace") "__init__") = PySem.W.fnX "__init__" "BadPlace.__init__" (defArgs (inClass (top 7) 0)) (defBody (inClass (top 7) 0)) (defScope (inClass (top 7) 0)) [("__class__", cc)] .none kV doc pm an (.ref cda) ct := ef
  refine ⟨by rw [ef2]; exact G, h.glo "BadPlace", ee, ?_⟩
  rw [ef2]
  exact .all fun us hl => match us, hl with | [_, _], _ => rfl
theorem sx_BadCount : SupScope ps_X_BadCount ps_X_BadCount (defScope (inClass (top 8) 0)) := ⟨rfl, rfl, rfl, by decide +kernel, rfl, by decide +kernel, by decide +kernel, by decide +kernel, by decide +kernel, by decide +kernel⟩
theorem ok_X_BadCount (h : HK K mg) : CalX PR w K mg base 1 "BadCount" ps_X_BadCount (sp_X_BadCount K) := by
  obtain ⟨cc, cda, oc, od, kV, doc, pm, an, ct, osl, ef, lk, hcd, T⟩ := h.init "BadCount" 59 (d := x_BadCount) rfl rfl rfl rfl
  have ee := h.ef "BadCount"
  have G : FnOk PR w K mg base (L2.CX PR w) (0 + 1) (ma K (ga K "BadCount") "__init__") (PySem.W.fnX "__init__" "BadCount.__init__" (defArgs (inClass (top 8) 0)) (defBody (inClass (top 8) 0)) (defScope (inClass (top 8) 0)) [("__class__", cc)] .none kV doc pm an (.ref cda) ct) ps_X_BadCount (sp_X_BadCount K) := by
    refine fn_ofS (pa := ⟨0, 0, 0, 0⟩) lk hcd sx_BadCount rfl ⟨_, _, rfl⟩ T (fun L => ⟨_, rfl⟩) (fun vs H Q E hs => by (repeat (obtain ⟨_, hs⟩ := hs)) <;> subst_vars <;> rfl) (fun vs H Q E hs => ?_) (fun A outer s H vs Q E hr hs => ?_)
    · obtain ⟨a, y, rfl, ha, _⟩ := hs
      exact ⟨a, [y], rfl, ha⟩
    · obtain ⟨a, y, rfl, ha, hq⟩ := hs
      refine ⟨_, pss_one (ps_ost (pv 0) (pv 1)), ?_⟩
      refine ⟨_, rfl, _, rfl, a, _, rfl, ee.oex, h.fld "BadCount" "count", .inl ⟨ha, fun dx nd ne => ?_⟩⟩
      refine hq _ dx (fun b o n q => ?_) upd_same nd ne (by rw [upd_ne ne, upd_same])
      rw [upd_ne n, upd_ne (ne_of_none q nd)]
      exact q
  have ef2 : fdA K (ma K (ga K "BadCount") "__init__") = PySem.W.fnX "__init__" "BadCount.__init__" (defArgs (inClass (top 8) 0)) (defBody (inClass (top 8) 0)) (defScope (inClass (top 8) 0)) [("__class__", cc)] .none kV doc pm an (.ref cda) ct := ef
  refine ⟨by rw [ef2]; exact G, h.glo "BadCount", ee, ?_⟩
  rw [ef2]
  exact .all fun us hl => match us, hl with | [_, _], _ => rfl
theorem sx_BadName : SupScope ps_X_BadName ps_X_BadName (defScope (inClass (top 9) 0)) := ⟨rfl, rfl, rfl, by decide +kernel, rfl, by decide +kernel, by decide +kernel, by decide +kernel, by decide +kernel, by decide +kernel⟩
theorem ok_X_BadName (h : HK K mg) : CalX PR w K mg base 1 "BadName" ps_X_BadName (sp_X_BadName K) := by
  obtain ⟨cc, cda, oc, od, kV, doc, pm, an, ct, osl, ef, lk, hcd, T⟩ := h.init "BadName" 60 (d := x_BadName) rfl rfl rfl rfl
  have ee := h.ef "BadName"
  have G : FnOk PR w K mg base (L2.CX PR w) (0 + 1) (ma K (ga K "BadName") "__init__") (PySem.W.fnX "__init__" "BadName.__init__" (defArgs (inClass (top 9) 0)) (defBody (inClass (top 9) 0)) (defScope (inClass (top 9) 0)) [("__class__", cc)] .none kV doc pm an (.ref cda) ct) ps_X_BadName (sp_X_BadName K) := by
    refine fn_ofS (pa := ⟨0, 0, 0, 0⟩) lk hcd sx_BadName rfl ⟨_, _, rfl⟩ T (fun L => ⟨_, rfl⟩) (fun vs H Q E hs => by (repeat (obtain ⟨_, hs⟩ := hs)) <;> subst_vars <;> rfl) (fun vs H Q E hs => ?_) (fun A outer s H vs Q E hr hs => ?_)
    · obtain ⟨a, y, rfl, ha, _⟩ := hs
      exact ⟨a, [y], rfl, ha⟩
    · obtain ⟨a, y, rfl, ha, hq⟩ := hs
      refine ⟨_, pss_one (ps_ost (pv 0) (pv 1)), ?_⟩
      refine ⟨_, rfl, _, rfl, a, _, rfl, ee.oex, h.fld "BadName" "name", .inl ⟨ha, fun dx nd ne => ?_⟩⟩
      refine hq _ dx (fun b o n q => ?_) upd_same nd ne (by rw [upd_ne ne, upd_same])
      rw [upd_ne n, upd_ne (ne_of_none q nd)]
      exact q
  have ef2 : fdA K (ma K (ga K "BadName") "__init__") = PySem.W.fnX "__init__" "BadName.__init__" (defArgs (inClass (top 9) 0)) (defBody (inClass (top 9) 0)) (defScope (inClass (top 9) 0)) [("__class__", cc)] .none kV doc pm an (.ref cda) ct := ef
  refine ⟨by rw [ef2]; exact G, h.glo "BadName", ee, ?_⟩
  rw [ef2]
  exact .all fun us hl => match us, hl with | [_, _], _ => rfl
theorem sx_BadWeight : SupScope ps_X_BadWeight ps_X_BadWeight (defScope (inClass (top 10) 0)) := ⟨rfl, rfl, rfl, by decide +kernel, rfl, by decide +kernel, by decide +kernel, by decide +kernel, by decide +kernel, by decide +kernel⟩
theorem ok_X_BadWeight (h : HK K mg) : CalX PR w K mg base 1 "BadWeight" ps_X_BadWeight (sp_X_BadWeight K) := by
  obtain ⟨cc, cda, oc, od, kV, doc, pm, an, ct, osl, ef, lk, hcd, T⟩ := h.init "BadWeight" 61 (d := x_BadWeight) rfl rfl rfl rfl
  have ee := h.ef "BadWeight"
  have G : FnOk PR w K mg base (L2.CX PR w) (0 + 1) (ma K (ga K "BadWeight") "__init__") (PySem.W.fnX "__init__" "BadWeight.__init__" (defArgs (inClass (top 10) 0)) (defBody (inClass (top 10) 0)) (defScope (inClass (top 10) 0)) [("__class__", cc)] .none kV doc pm an (.ref cda) ct) ps_X_BadWeight (sp_X_BadWeight K) := by
    refine fn_ofS (pa := ⟨0, 0, 0, 0⟩) lk hcd sx_BadWeight rfl ⟨_, _, rfl⟩ T (fun L => ⟨_, rfl⟩) (fun vs H Q E hs => by (repeat (obtain ⟨_, hs⟩ := hs)) <;> subst_vars <;> rfl) (fun vs H Q E hs => ?_) (fun A outer s H vs Q E hr hs => ?_)
    · obtain ⟨a, y, rfl, ha, _⟩ := hs
      exact ⟨a, [y], rfl, ha⟩
    · obtain ⟨a, y, rfl, ha, hq⟩ := hs
      refine ⟨_, pss_one (ps_ost (pv 0) (pv 1)), ?_⟩
      refine ⟨_, rfl, _, rfl, a, _, rfl, ee.oex, h.fld "BadWeight" "at", .inl ⟨ha, fun dx nd ne => ?_⟩⟩
      refine hq _ dx (fun b o n q => ?_) upd_same nd ne (by rw [upd_ne ne, upd_same])
      rw [upd_ne n, upd_ne (ne_of_none q nd)]
      exact q
  have ef2 : fdA K (ma K (ga K "BadWeight") "__init__") = PySem.W.fnX "__init__" "BadWeight.__init__" (defArgs (inClass (top 10) 0)) (defBody (inClass (top 10) 0)) (defScope (inClass (top 10) 0)) [("__class__", cc)] .none kV doc pm an (.ref cda) ct := ef
  refine ⟨by rw [ef2]; exact G, h.glo "BadWeight", ee, ?_⟩
  rw [ef2]
  exact .all fun us hl => match us, hl with | [_, _], _ => rfl
theorem sx_BadSign : SupScope ps_X_BadSign ps_X_BadSign (defScope (inClass (top 11) 0)) := ⟨rfl, rfl, rfl, by decide +kernel, rfl, by decide +kernel, by decide +kernel, by decide +kernel, by decide +kernel, by decide +kernel⟩
theorem ok_X_BadSign (h : HK K mg) : CalX PR w K mg base 1 "BadSign" ps_X_BadSign (sp_X_BadSign K) := by
  obtain ⟨cc, cda, oc, od, kV, doc, pm, an, ct, osl, ef, lk, hcd, T⟩ := h.init "BadSign" 62 (d := x_BadSign) rfl rfl rfl rfl
  have ee := h.ef "BadSign"
  have G : FnOk PR w K mg base (L2.CX PR w) (0 + 1) (ma K (ga K "BadSign") "__init__") (PySem.W.fnX "__init__" "BadSign.__init__" (defArgs (inClass (top 11) 0)) (defBody (inClass (top 11) 0)) (defScope (inClass (top 11) 0)) [("__class__", cc)] .none kV doc pm an (.ref cda) ct) ps_X_BadSign (sp_X_BadSign K) := by
    refine fn_ofS (pa := ⟨0, 0, 0, 0⟩) lk hcd sx_BadSign rfl ⟨_, _, rfl⟩ T (fun L => ⟨_, rfl⟩) (fun vs H Q E hs => by (repeat (obtain ⟨_, hs⟩ := hs)) <;> subst_vars <;> rfl) (fun vs H Q E hs => ?_) (fun A outer s H vs Q E hr hs => ?_)
    · obtain ⟨a, y, rfl, ha, _⟩ := hs
      exact ⟨a, [y], rfl, ha⟩
    · obtain ⟨a, y, rfl, ha, hq⟩ := hs
      refine ⟨_, pss_one (ps_ost (pv 0) (pv 1)), ?_⟩
      refine ⟨_, rfl, _, rfl, a, _, rfl, ee.oex, h.fld "BadSign" "at", .inl ⟨ha, fun dx nd ne => ?_⟩⟩
      refine hq _ dx (fun b o n q => ?_) upd_same nd ne (by rw [upd_ne ne, upd_same])
      rw [upd_ne n, upd_ne (ne_of_none q nd)]
      exact q
  have ef2 : fdA K (ma K (ga K "BadSign") "__init__") = PySem.W.fnX "__init__" "BadSign.__init__" (defArgs (inClass (top 11) 0)) (defBody (inClass (top 11) 0)) (defScope (inClass (top 11) 0)) [("__class__", cc)] .none kV doc pm an (.ref cda) ct := ef
  refine ⟨by rw [ef2]; exact G, h.glo "BadSign", ee, ?_⟩
  rw [ef2]
  exact .all fun us hl => match us, hl with | [_, _], _ => rfl
theorem sx_BadTie : SupScope ps_X_BadTie ps_X_BadTie (defScope (inClass (top 12) 0)) := ⟨rfl, rfl, rfl, by decide +kernel, rfl, by decide +kernel, by decide +kernel, by decide +kernel, by decide +kernel, by decide +kernel⟩
theorem ok_X_BadTie (h : HK K mg) : CalX PR w K mg base 1 "BadTie" ps_X_BadTie (sp_X_BadTie K) := by
  obtain ⟨cc, cda, oc, od, kV, doc, pm, an, ct, osl, ef, lk, hcd, T⟩ := h.init "BadTie" 63 (d := x_BadTie) rfl rfl rfl rfl
  have ee := h.ef "BadTie"
  have G : FnOk PR w K mg base (L2.CX PR w) (0 + 1) (ma K (ga K "BadTie") "__init__") (PySem.W.fnX "__init__" "BadTie.__init__" (defArgs (inClass (top 12) 0)) (defBody (inClass (top 12) 0)) (defScope (inClass (top 12) 0)) [("__class__", cc)] .none kV doc pm an (.ref cda) ct) ps_X_BadTie (sp_X_BadTie K) := by
    refine fn_ofS (pa := ⟨0, 0, 0, 0⟩) lk hcd sx_BadTie rfl ⟨_, _, rfl⟩ T (fun L => ⟨_, rfl⟩) (fun vs H Q E hs => by (repeat (obtain ⟨_, hs⟩ := hs)) <;> subst_vars <;> rfl) (fun vs H Q E hs => ?_) (fun A outer s H vs Q E hr hs => ?_)
    · obtain ⟨a, y, rfl, ha, _⟩ := hs
      exact ⟨a, [y], rfl, ha⟩
    · obtain ⟨a, y, rfl, ha, hq⟩ := hs
      refine ⟨_, pss_one (ps_ost (pv 0) (pv 1)), ?_⟩
      refine ⟨_, rfl, _, rfl, a, _, rfl, ee.oex, h.fld "BadTie" "index", .inl ⟨ha, fun dx nd ne => ?_⟩⟩
      refine hq _ dx (fun b o n q => ?_) upd_same nd ne (by rw [upd_ne ne, upd_same])
      rw [upd_ne n, upd_ne (ne_of_none q nd)]
      exact q
  have ef2 : fdA K (ma K (ga K "BadTie") "__init__") = PySem.W.fnX "__init__" "BadTie.__init__" (defArgs (inClass (top 12) 0)) (defBody (inClass (top 12) 0)) (defScope (inClass (top 12) 0)) [("__class__", cc)] .none kV doc pm an (.ref cda) ct := ef
  refine ⟨by rw [ef2]; exact G, h.glo "BadTie", ee, ?_⟩
  rw [ef2]
  exact .all fun us hl => match us, hl with | [_, _], _ => rfl
theorem sx_BadLot : SupScope ps_X_BadLot ps_X_BadLot (defScope (inClass (top 13) 0)) := ⟨rfl, rfl, rfl, by decide +kernel, rfl, by decide +kernel, by decide +kernel, by decide +kernel, by decide +kernel, by decide +kernel⟩
theorem ok_X_BadLot (h : HK K mg) (c_copied : Cal PR w K mg base 2 "copied" ["value"] (sp_copied K)) : CalX PR w K mg base 3 "BadLot" ps_X_BadLot (sp_X_BadLot K) := by
  obtain ⟨cc, cda, oc, od, kV, doc, pm, an, ct, osl, ef, lk, hcd, T⟩ := h.init "BadLot" 64 (d := x_BadLot) rfl rfl rfl rfl
  have ee := h.ef "BadLot"
  have G : FnOk PR w K mg base (L2.CX PR w) (2 + 1) (ma K (ga K "BadLot") "__init__") (PySem.W.fnX "__init__" "BadLot.__init__" (defArgs (inClass (top 13) 0)) (defBody (inClass (top 13) 0)) (defScope (inClass (top 13) 0)) [("__class__", cc)] .none kV doc pm an (.ref cda) ct) ps_X_BadLot (sp_X_BadLot K) := by
    refine fn_ofS (pa := ⟨0, 0, 0, 0⟩) lk hcd sx_BadLot rfl ⟨_, _, rfl⟩ T (fun L => ⟨_, rfl⟩) (fun vs H Q E hs => by (repeat (obtain ⟨_, hs⟩ := hs)) <;> subst_vars <;> rfl) (fun vs H Q E hs => ?_) (fun A outer s H vs Q E hr hs => ?_)
    · obtain ⟨a, y, _, rfl, ha, _⟩ := hs
      exact ⟨a, [y], rfl, ha⟩
    · obtain ⟨a, y, c, rfl, ha, hc, hq⟩ := hs
      refine ⟨_, pss_one (ps_ost (pv 0) (pe_cal c_copied hr passL (pa_cons (pv 1) pa_nil))), ?_⟩
      refine ⟨_, rfl, y, c, rfl, hc, fun H1 y1 s1 r1 => ?_⟩
      refine ⟨_, rfl, a, _, rfl, ee.oex, h.fld "BadLot" "lot", .inl ⟨s1 _ _ ha, fun dx nd ne => ?_⟩⟩
      have nd0 : H dx = none := s1.free nd
      have keep : ∀ b o, b ≠ a → H1 b = some o → (upd (upd H1 dx (exd dx [("lot", y1)])) a (exo a (ga K "BadLot") (some dx))) b = some o := fun b o n q => by
        rw [upd_ne n, upd_ne (ne_of_none q nd)]
        exact q
      refine hq _ dx y1 (fun b o n q => keep b o n (s1 _ _ q)) upd_same nd0 ne (by rw [upd_ne ne, upd_same]) (r1.keep (s1 _ _ ha) keep)
  have ef2 : fdA K (ma K (ga K "BadLot") "__init__") = PySem.W.fnX "__init__" "BadLot.__init__" (defArgs (inClass (top 13) 0)) (defBody (inClass (top 13) 0)) (defScope (inClass (top 13) 0)) [("__class__", cc)] .none kV doc pm an (.ref cda) ct := ef
  refine ⟨by rw [ef2]; exact G, h.glo "BadLot", ee, ?_⟩
  rw [ef2]
  exact .all fun us hl => match us, hl with | [_, _], _ => rfl
theorem sx_Mismatch : SupScope ps_X_Mismatch ps_X_Mismatch (defScope (inClass (top 14) 0)) := ⟨rfl, rfl, rfl, by decide +kernel, rfl, by decide +kernel, by decide +kernel, by decide +kernel, by decide +kernel, by decide +kernel⟩
theorem ok_X_Mismatch (h : HK K mg) : CalX PR w K mg base 1 "Mismatch" ps_X_Mismatch (sp_X_Mismatch K) := by
  obtain ⟨cc, cda, oc, od, kV, doc, pm, an, ct, osl, ef, lk, hcd, T⟩ := h.init "Mismatch" 65 (d := x_Mismatch) rfl rfl rfl rfl
  have ee := h.ef "Mismatch"
  have G : FnOk PR w K mg base (L2.CX PR w) (0 + 1) (ma K (ga K "Mismatch") "__init__") (PySem.W.fnX "__init__" "Mismatch.__init__" (defArgs (inClass (top 14) 0)) (defBody (inClass (top 14) 0)) (defScope (inClass (top 14) 0)) [("__class__", cc)] .none kV doc pm an (.ref cda) ct) ps_X_Mismatch (sp_X_Mismatch K) := by
    refine fn_ofS (pa := ⟨0, 0, 0, 0⟩) lk hcd sx_Mismatch rfl ⟨_, _, rfl⟩ T (fun L => ⟨_, rfl⟩) (fun vs H Q E hs => by (repeat (obtain ⟨_, hs⟩ := hs)) <;> subst_vars <;> rfl) (fun vs H Q E hs => ?_) (fun A outer s H vs Q E hr hs => ?_)
    · obtain ⟨a, rfl, ha, _⟩ := hs
      exact ⟨a, [], rfl, ha⟩
    · obtain ⟨a, rfl, ha, hq⟩ := hs
      exact ⟨_, pss_nil, hq⟩
  have ef2 : fdA K (ma K (ga K "Mismatch") "__init__") = PySem.W.fnX "__init__" "Mismatch.__init__" (defArgs (inClass (top 14) 0)) (defBody (inClass (top 14) 0)) (defScope (inClass (top 14) 0)) [("__class__", cc)] .none kV doc pm an (.ref cda) ct := ef
  refine ⟨by rw [ef2]; exact G, h.glo "Mismatch", ee, ?_⟩
  rw [ef2]
  exact .all fun us hl => match us, hl with | [_], _ => rfl
theorem sx_NotSymmetric : SupScope ps_X_NotSymmetric ps_X_NotSymmetric (defScope (inClass (top 15) 0)) := ⟨rfl, rfl, rfl, by decide +kernel, rfl, by decide +kernel, by decide +kernel, by decide +kernel, by decide +kernel, by decide +kernel⟩
theorem ok_X_NotSymmetric (h : HK K mg) : CalX PR w K mg base 1 "NotSymmetric" ps_X_NotSymmetric (sp_X_NotSymmetric K) := by
  obtain ⟨cc, cda, oc, od, kV, doc, pm, an, ct, osl, ef, lk, hcd, T⟩ := h.init "NotSymmetric" 66 (d := x_NotSymmetric) rfl rfl rfl rfl
  have ee := h.ef "NotSymmetric"
  have G : FnOk PR w K mg base (L2.CX PR w) (0 + 1) (ma K (ga K "NotSymmetric") "__init__") (PySem.W.fnX "__init__" "NotSymmetric.__init__" (defArgs (inClass (top 15) 0)) (defBody (inClass (top 15) 0)) (defScope (inClass (top 15) 0)) [("__class__", cc)] .none kV doc pm an (.ref cda) ct) ps_X_NotSymmetric (sp_X_NotSymmetric K) := by
    refine fn_ofS (pa := ⟨0, 0, 0, 0⟩) lk hcd sx_NotSymmetric rfl ⟨_, _, rfl⟩ T (fun L => ⟨_, rfl⟩) (fun vs H Q E hs => by (repeat (obtain ⟨_, hs⟩ := hs)) <;> subst_vars <;> rfl) (fun vs H Q E hs => ?_) (fun A outer s H vs Q E hr hs => ?_)
    · obtain ⟨a, y, z, rfl, ha, _⟩ := hs
      exact ⟨a, [y, z], rfl, ha⟩
    · obtain ⟨a, y, z, rfl, ha, hq⟩ := hs
      refine ⟨_, pss_cons (ps_ost (pv 0) (pv 1)) (pss_one (ps_ost (pv 0) (pv 2))), ?_⟩
      refine ⟨_, rfl, _, rfl, a, _, rfl, ee.oex, h.fld "NotSymmetric" "row", .inl ⟨ha, fun dx nd ne => ?_⟩⟩
      have e1 : (upd (upd H dx (exd dx [("row", y)])) a (exo a (ga K "NotSymmetric") (some dx))) dx = some (exd dx [("row", y)]) := by rw [upd_ne ne, upd_same]
      refine ⟨_, rfl, _, rfl, a, _, rfl, ee.oex, h.fld "NotSymmetric" "column", .inr ⟨dx, _, upd_same, e1, (show (1 : Nat) ≤ 900 by decide), ?_⟩⟩
      refine hq _ dx (fun b o n q => ?_) ?_ nd ne upd_same
      · rw [upd_ne (ne_of_none q nd), upd_ne n, upd_ne (ne_of_none q nd)]
        exact q
      · rw [upd_ne (Ne.symm ne), upd_same]
  have ef2 : fdA K (ma K (ga K "NotSymmetric") "__init__") = PySem.W.fnX "__init__" "NotSymmetric.__init__" (defArgs (inClass (top 15) 0)) (defBody (inClass (top 15) 0)) (defScope (inClass (top 15) 0)) [("__class__", cc)] .none kV doc pm an (.ref cda) ct := ef
  refine ⟨by rw [ef2]; exact G, h.glo "NotSymmetric", ee, ?_⟩
  rw [ef2]
  exact .all fun us hl => match us, hl with | [_, _, _], _ => rfl
theorem sx_NotPositive : SupScope ps_X_NotPositive ps_X_NotPositive (defScope (inClass (top 16) 0)) := ⟨rfl, rfl, rfl, by decide +kernel, rfl, by decide +kernel, by decide +kernel, by decide +kernel, by decide +kernel, by decide +kernel⟩
theorem ok_X_NotPositive (h : HK K mg) (c_copied : Cal PR w K mg base 2 "copied" ["value"] (sp_copied K)) : CalX PR w K mg base 3 "NotPositive" ps_X_NotPositive (sp_X_NotPositive K) := by
  obtain ⟨cc, cda, oc, od, kV, doc, pm, an, ct, osl, ef, lk, hcd, T⟩ := h.init "NotPositive" 67 (d := x_NotPositive) rfl rfl rfl rfl
  have ee := h.ef "NotPositive"
  have G : FnOk PR w K mg base (L2.CX PR w) (2 + 1) (ma K (ga K "NotPositive") "__init__") (PySem.W.fnX "__init__" "NotPositive.__init__" (defArgs (inClass (top 16) 0)) (defBody (inClass (top 16) 0)) (defScope (inClass (top 16) 0)) [("__class__", cc)] .none kV doc pm an (.ref cda) ct) ps_X_NotPositive (sp_X_NotPositive K) := by
    refine fn_ofS (pa := ⟨0, 0, 0, 0⟩) lk hcd sx_NotPositive rfl ⟨_, _, rfl⟩ T (fun L => ⟨_, rfl⟩) (fun vs H Q E hs => by (repeat (obtain ⟨_, hs⟩ := hs)) <;> subst_vars <;> rfl) (fun vs H Q E hs => ?_) (fun A outer s H vs Q E hr hs => ?_)
    · obtain ⟨a, y, _, rfl, ha, _⟩ := hs
      exact ⟨a, [y], rfl, ha⟩
    · obtain ⟨a, y, c, rfl, ha, hc, hq⟩ := hs
      refine ⟨_, pss_one (ps_ost (pv 0) (pe_cal c_copied hr passL (pa_cons (pv 1) pa_nil))), ?_⟩
      refine ⟨_, rfl, y, c, rfl, hc, fun H1 y1 s1 r1 => ?_⟩
      refine ⟨_, rfl, a, _, rfl, ee.oex, h.fld "NotPositive" "row", .inl ⟨s1 _ _ ha, fun dx nd ne => ?_⟩⟩
      have nd0 : H dx = none := s1.free nd
      have keep : ∀ b o, b ≠ a → H1 b = some o → (upd (upd H1 dx (exd dx [("row", y1)])) a (exo a (ga K "NotPositive") (some dx))) b = some o := fun b o n q => by
        rw [upd_ne n, upd_ne (ne_of_none q nd)]
        exact q
      refine hq _ dx y1 (fun b o n q => keep b o n (s1 _ _ q)) upd_same nd0 ne (by rw [upd_ne ne, upd_same]) (r1.keep (s1 _ _ ha) keep)
  have ef2 : fdA K (ma K (ga K "NotPositive") "__init__") = PySem.W.fnX "__init__" "NotPositive.__init__" (defArgs (inClass (top 16) 0)) (defBody (inClass (top 16) 0)) (defScope (inClass (top 16) 0)) [("__class__", cc)] .none kV doc pm an (.ref cda) ct := ef
  refine ⟨by rw [ef2]; exact G, h.glo "NotPositive", ee, ?_⟩
  rw [ef2]
  exact .all fun us hl => match us, hl with | [_, _], _ => rfl
theorem sx_NotUnit : SupScope ps_X_NotUnit ps_X_NotUnit (defScope (inClass (top 17) 0)) := ⟨rfl, rfl, rfl, by decide +kernel, rfl, by decide +kernel, by decide +kernel, by decide +kernel, by decide +kernel, by decide +kernel⟩
theorem ok_X_NotUnit (h : HK K mg) : CalX PR w K mg base 1 "NotUnit" ps_X_NotUnit (sp_X_NotUnit K) := by
  obtain ⟨cc, cda, oc, od, kV, doc, pm, an, ct, osl, ef, lk, hcd, T⟩ := h.init "NotUnit" 68 (d := x_NotUnit) rfl rfl rfl rfl
  have ee := h.ef "NotUnit"
  have G : FnOk PR w K mg base (L2.CX PR w) (0 + 1) (ma K (ga K "NotUnit") "__init__") (PySem.W.fnX "__init__" "NotUnit.__init__" (defArgs (inClass (top 17) 0)) (defBody (inClass (top 17) 0)) (defScope (inClass (top 17) 0)) [("__class__", cc)] .none kV doc pm an (.ref cda) ct) ps_X_NotUnit (sp_X_NotUnit K) := by
    refine fn_ofS (pa := ⟨0, 0, 0, 0⟩) lk hcd sx_NotUnit rfl ⟨_, _, rfl⟩ T (fun L => ⟨_, rfl⟩) (fun vs H Q E hs => by (repeat (obtain ⟨_, hs⟩ := hs)) <;> subst_vars <;> rfl) (fun vs H Q E hs => ?_) (fun A outer s H vs Q E hr hs => ?_)
    · obtain ⟨a, y, rfl, ha, _⟩ := hs
      exact ⟨a, [y], rfl, ha⟩
    · obtain ⟨a, y, rfl, ha, hq⟩ := hs
      refine ⟨_, pss_one (ps_ost (pv 0) (pv 1)), ?_⟩
      refine ⟨_, rfl, _, rfl, a, _, rfl, ee.oex, h.fld "NotUnit" "det", .inl ⟨ha, fun dx nd ne => ?_⟩⟩
      refine hq _ dx (fun b o n q => ?_) upd_same nd ne (by rw [upd_ne ne, upd_same])
      rw [upd_ne n, upd_ne (ne_of_none q nd)]
      exact q
  have ef2 : fdA K (ma K (ga K "NotUnit") "__init__") = PySem.W.fnX "__init__" "NotUnit.__init__" (defArgs (inClass (top 17) 0)) (defBody (inClass (top 17) 0)) (defScope (inClass (top 17) 0)) [("__class__", cc)] .none kV doc pm an (.ref cda) ct := ef
  refine ⟨by rw [ef2]; exact G, h.glo "NotUnit", ee, ?_⟩
  rw [ef2]
  exact .all fun us hl => match us, hl with | [_, _], _ => rfl
theorem sx_NotWhole : SupScope ps_X_NotWhole ps_X_NotWhole (defScope (inClass (top 18) 0)) := ⟨rfl, rfl, rfl, by decide +kernel, rfl, by decide +kernel, by decide +kernel, by decide +kernel, by decide +kernel, by decide +kernel⟩
theorem ok_X_NotWhole (h : HK K mg) : CalX PR w K mg base 1 "NotWhole" ps_X_NotWhole (sp_X_NotWhole K) := by
  obtain ⟨cc, cda, oc, od, kV, doc, pm, an, ct, osl, ef, lk, hcd, T⟩ := h.init "NotWhole" 69 (d := x_NotWhole) rfl rfl rfl rfl
  have ee := h.ef "NotWhole"
  have G : FnOk PR w K mg base (L2.CX PR w) (0 + 1) (ma K (ga K "NotWhole") "__init__") (PySem.W.fnX "__init__" "NotWhole.__init__" (defArgs (inClass (top 18) 0)) (defBody (inClass (top 18) 0)) (defScope (inClass (top 18) 0)) [("__class__", cc)] .none kV doc pm an (.ref cda) ct) ps_X_NotWhole (sp_X_NotWhole K) := by
    refine fn_ofS (pa := ⟨0, 0, 0, 0⟩) lk hcd sx_NotWhole rfl ⟨_, _, rfl⟩ T (fun L => ⟨_, rfl⟩) (fun vs H Q E hs => by (repeat (obtain ⟨_, hs⟩ := hs)) <;> subst_vars <;> rfl) (fun vs H Q E hs => ?_) (fun A outer s H vs Q E hr hs => ?_)
    · obtain ⟨a, y, z, rfl, ha, _⟩ := hs
      exact ⟨a, [y, z], rfl, ha⟩
    · obtain ⟨a, y, z, rfl, ha, hq⟩ := hs
      refine ⟨_, pss_cons (ps_ost (pv 0) (pv 1)) (pss_one (ps_ost (pv 0) (pv 2))), ?_⟩
      refine ⟨_, rfl, _, rfl, a, _, rfl, ee.oex, h.fld "NotWhole" "row", .inl ⟨ha, fun dx nd ne => ?_⟩⟩
      have e1 : (upd (upd H dx (exd dx [("row", y)])) a (exo a (ga K "NotWhole") (some dx))) dx = some (exd dx [("row", y)]) := by rw [upd_ne ne, upd_same]
      refine ⟨_, rfl, _, rfl, a, _, rfl, ee.oex, h.fld "NotWhole" "column", .inr ⟨dx, _, upd_same, e1, (show (1 : Nat) ≤ 900 by decide), ?_⟩⟩
      refine hq _ dx (fun b o n q => ?_) ?_ nd ne upd_same
      · rw [upd_ne (ne_of_none q nd), upd_ne n, upd_ne (ne_of_none q nd)]
        exact q
      · rw [upd_ne (Ne.symm ne), upd_same]
  have ef2 : fdA K (ma K (ga K "NotWhole") "__init__") = PySem.W.fnX "__init__" "NotWhole.__init__" (defArgs (inClass (top 18) 0)) (defBody (inClass (top 18) 0)) (defScope (inClass (top 18) 0)) [("__class__", cc)] .none kV doc pm an (.ref cda) ct := ef
  refine ⟨by rw [ef2]; exact G, h.glo "NotWhole", ee, ?_⟩
  rw [ef2]
  exact .all fun us hl => match us, hl with | [_, _, _], _ => rfl
theorem sx_NotEven : SupScope ps_X_NotEven ps_X_NotEven (defScope (inClass (top 19) 0)) := ⟨rfl, rfl, rfl, by decide +kernel, rfl, by decide +kernel, by decide +kernel, by decide +kernel, by decide +kernel, by decide +kernel⟩
theorem ok_X_NotEven (h : HK K mg) (c_copied : Cal PR w K mg base 2 "copied" ["value"] (sp_copied K)) : CalX PR w K mg base 3 "NotEven" ps_X_NotEven (sp_X_NotEven K) := by
  obtain ⟨cc, cda, oc, od, kV, doc, pm, an, ct, osl, ef, lk, hcd, T⟩ := h.init "NotEven" 70 (d := x_NotEven) rfl rfl rfl rfl
  have ee := h.ef "NotEven"
  have G : FnOk PR w K mg base (L2.CX PR w) (2 + 1) (ma K (ga K "NotEven") "__init__") (PySem.W.fnX "__init__" "NotEven.__init__" (defArgs (inClass (top 19) 0)) (defBody (inClass (top 19) 0)) (defScope (inClass (top 19) 0)) [("__class__", cc)] .none kV doc pm an (.ref cda) ct) ps_X_NotEven (sp_X_NotEven K) := by
    refine fn_ofS (pa := ⟨0, 0, 0, 0⟩) lk hcd sx_NotEven rfl ⟨_, _, rfl⟩ T (fun L => ⟨_, rfl⟩) (fun vs H Q E hs => by (repeat (obtain ⟨_, hs⟩ := hs)) <;> subst_vars <;> rfl) (fun vs H Q E hs => ?_) (fun A outer s H vs Q E hr hs => ?_)
    · obtain ⟨a, y, _, rfl, ha, _⟩ := hs
      exact ⟨a, [y], rfl, ha⟩
    · obtain ⟨a, y, c, rfl, ha, hc, hq⟩ := hs
      refine ⟨_, pss_one (ps_ost (pv 0) (pe_cal c_copied hr passL (pa_cons (pv 1) pa_nil))), ?_⟩
      refine ⟨_, rfl, y, c, rfl, hc, fun H1 y1 s1 r1 => ?_⟩
      refine ⟨_, rfl, a, _, rfl, ee.oex, h.fld "NotEven" "place", .inl ⟨s1 _ _ ha, fun dx nd ne => ?_⟩⟩
      have nd0 : H dx = none := s1.free nd
      have keep : ∀ b o, b ≠ a → H1 b = some o → (upd (upd H1 dx (exd dx [("place", y1)])) a (exo a (ga K "NotEven") (some dx))) b = some o := fun b o n q => by
        rw [upd_ne n, upd_ne (ne_of_none q nd)]
        exact q
      refine hq _ dx y1 (fun b o n q => keep b o n (s1 _ _ q)) upd_same nd0 ne (by rw [upd_ne ne, upd_same]) (r1.keep (s1 _ _ ha) keep)
  have ef2 : fdA K (ma K (ga K "NotEven") "__init__") = PySem.W.fnX "__init__" "NotEven.__init__" (defArgs (inClass (top 19) 0)) (defBody (inClass (top 19) 0)) (defScope (inClass (top 19) 0)) [("__class__", cc)] .none kV doc pm an (.ref cda) ct := ef
  refine ⟨by rw [ef2]; exact G, h.glo "NotEven", ee, ?_⟩
  rw [ef2]
  exact .all fun us hl => match us, hl with | [_, _], _ => rfl
theorem sx_NotPerfect : SupScope ps_X_NotPerfect ps_X_NotPerfect (defScope (inClass (top 20) 0)) := ⟨rfl, rfl, rfl, by decide +kernel, rfl, by decide +kernel, by decide +kernel, by decide +kernel, by decide +kernel, by decide +kernel⟩
theorem ok_X_NotPerfect (h : HK K mg) : CalX PR w K mg base 1 "NotPerfect" ps_X_NotPerfect (sp_X_NotPerfect K) := by
  obtain ⟨cc, cda, oc, od, kV, doc, pm, an, ct, osl, ef, lk, hcd, T⟩ := h.init "NotPerfect" 71 (d := x_NotPerfect) rfl rfl rfl rfl
  have ee := h.ef "NotPerfect"
  have G : FnOk PR w K mg base (L2.CX PR w) (0 + 1) (ma K (ga K "NotPerfect") "__init__") (PySem.W.fnX "__init__" "NotPerfect.__init__" (defArgs (inClass (top 20) 0)) (defBody (inClass (top 20) 0)) (defScope (inClass (top 20) 0)) [("__class__", cc)] .none kV doc pm an (.ref cda) ct) ps_X_NotPerfect (sp_X_NotPerfect K) := by
    refine fn_ofS (pa := ⟨0, 0, 0, 0⟩) lk hcd sx_NotPerfect rfl ⟨_, _, rfl⟩ T (fun L => ⟨_, rfl⟩) (fun vs H Q E hs => by (repeat (obtain ⟨_, hs⟩ := hs)) <;> subst_vars <;> rfl) (fun vs H Q E hs => ?_) (fun A outer s H vs Q E hr hs => ?_)
    · obtain ⟨a, rfl, ha, _⟩ := hs
      exact ⟨a, [], rfl, ha⟩
    · obtain ⟨a, rfl, ha, hq⟩ := hs
      exact ⟨_, pss_nil, hq⟩
  have ef2 : fdA K (ma K (ga K "NotPerfect") "__init__") = PySem.W.fnX "__init__" "NotPerfect.__init__" (defArgs (inClass (top 20) 0)) (defBody (inClass (top 20) 0)) (defScope (inClass (top 20) 0)) [("__class__", cc)] .none kV doc pm an (.ref cda) ct := ef
  refine ⟨by rw [ef2]; exact G, h.glo "NotPerfect", ee, ?_⟩
  rw [ef2]
  exact .all fun us hl => match us, hl with | [_], _ => rfl
theorem sx_Singular : SupScope ps_X_Singular ps_X_Singular (defScope (inClass (top 21) 0)) := ⟨rfl, rfl, rfl, by decide +kernel, rfl, by decide +kernel, by decide +kernel, by decide +kernel, by decide +kernel, by decide +kernel⟩
theorem ok_X_Singular (h : HK K mg) (c_copied : Cal PR w K mg base 2 "copied" ["value"] (sp_copied K)) : CalX PR w K mg base 3 "Singular" ps_X_Singular (sp_X_Singular K) := by
  obtain ⟨cc, cda, oc, od, kV, doc, pm, an, ct, osl, ef, lk, hcd, T⟩ := h.init "Singular" 72 (d := x_Singular) rfl rfl rfl rfl
  have ee := h.ef "Singular"
  have G : FnOk PR w K mg base (L2.CX PR w) (2 + 1) (ma K (ga K "Singular") "__init__") (PySem.W.fnX "__init__" "Singular.__init__" (defArgs (inClass (top 21) 0)) (defBody (inClass (top 21) 0)) (defScope (inClass (top 21) 0)) [("__class__", cc)] .none kV doc pm an (.ref cda) ct) ps_X_Singular (sp_X_Singular K) := by
    refine fn_ofS (pa := ⟨0, 0, 0, 0⟩) lk hcd sx_Singular rfl ⟨_, _, rfl⟩ T (fun L => ⟨_, rfl⟩) (fun vs H Q E hs => by (repeat (obtain ⟨_, hs⟩ := hs)) <;> subst_vars <;> rfl) (fun vs H Q E hs => ?_) (fun A outer s H vs Q E hr hs => ?_)
    · obtain ⟨a, y, _, rfl, ha, _⟩ := hs
      exact ⟨a, [y], rfl, ha⟩
    · obtain ⟨a, y, c, rfl, ha, hc, hq⟩ := hs
      refine ⟨_, pss_one (ps_ost (pv 0) (pe_cal c_copied hr passL (pa_cons (pv 1) pa_nil))), ?_⟩
      refine ⟨_, rfl, y, c, rfl, hc, fun H1 y1 s1 r1 => ?_⟩
      refine ⟨_, rfl, a, _, rfl, ee.oex, h.fld "Singular" "row", .inl ⟨s1 _ _ ha, fun dx nd ne => ?_⟩⟩
      have nd0 : H dx = none := s1.free nd
      have keep : ∀ b o, b ≠ a → H1 b = some o → (upd (upd H1 dx (exd dx [("row", y1)])) a (exo a (ga K "Singular") (some dx))) b = some o := fun b o n q => by
        rw [upd_ne n, upd_ne (ne_of_none q nd)]
        exact q
      refine hq _ dx y1 (fun b o n q => keep b o n (s1 _ _ q)) upd_same nd0 ne (by rw [upd_ne ne, upd_same]) (r1.keep (s1 _ _ ha) keep)
  have ef2 : fdA K (ma K (ga K "Singular") "__init__") = PySem.W.fnX "__init__" "Singular.__init__" (defArgs (inClass (top 21) 0)) (defBody (inClass (top 21) 0)) (defScope (inClass (top 21) 0)) [("__class__", cc)] .none kV doc pm an (.ref cda) ct := ef
  refine ⟨by rw [ef2]; exact G, h.glo "Singular", ee, ?_⟩
  rw [ef2]
  exact .all fun us hl => match us, hl with | [_, _], _ => rfl
theorem sx_Barred : SupScope ps_X_Barred ps_X_Barred (defScope (inClass (top 22) 0)) := ⟨rfl, rfl, rfl, by decide +kernel, rfl, by decide +kernel, by decide +kernel, by decide +kernel, by decide +kernel, by decide +kernel⟩
theorem ok_X_Barred (h : HK K mg) (c_copied : Cal PR w K mg base 2 "copied" ["value"] (sp_copied K)) : CalX PR w K mg base 3 "Barred" ps_X_Barred (sp_X_Barred K) := by
  obtain ⟨cc, cda, oc, od, kV, doc, pm, an, ct, osl, ef, lk, hcd, T⟩ := h.init "Barred" 73 (d := x_Barred) rfl rfl rfl rfl
  have ee := h.ef "Barred"
  have G : FnOk PR w K mg base (L2.CX PR w) (2 + 1) (ma K (ga K "Barred") "__init__") (PySem.W.fnX "__init__" "Barred.__init__" (defArgs (inClass (top 22) 0)) (defBody (inClass (top 22) 0)) (defScope (inClass (top 22) 0)) [("__class__", cc)] .none kV doc pm an (.ref cda) ct) ps_X_Barred (sp_X_Barred K) := by
    refine fn_ofS (pa := ⟨0, 0, 0, 0⟩) lk hcd sx_Barred rfl ⟨_, _, rfl⟩ T (fun L => ⟨_, rfl⟩) (fun vs H Q E hs => by (repeat (obtain ⟨_, hs⟩ := hs)) <;> subst_vars <;> rfl) (fun vs H Q E hs => ?_) (fun A outer s H vs Q E hr hs => ?_)
    · obtain ⟨a, y, _, rfl, ha, _⟩ := hs
      exact ⟨a, [y], rfl, ha⟩
    · obtain ⟨a, y, c, rfl, ha, hc, hq⟩ := hs
      refine ⟨_, pss_one (ps_ost (pv 0) (pe_cal c_copied hr passL (pa_cons (pv 1) pa_nil))), ?_⟩
      refine ⟨_, rfl, y, c, rfl, hc, fun H1 y1 s1 r1 => ?_⟩
      refine ⟨_, rfl, a, _, rfl, ee.oex, h.fld "Barred" "weights", .inl ⟨s1 _ _ ha, fun dx nd ne => ?_⟩⟩
      have nd0 : H dx = none := s1.free nd
      have keep : ∀ b o, b ≠ a → H1 b = some o → (upd (upd H1 dx (exd dx [("weights", y1)])) a (exo a (ga K "Barred") (some dx))) b = some o := fun b o n q => by
        rw [upd_ne n, upd_ne (ne_of_none q nd)]
        exact q
      refine hq _ dx y1 (fun b o n q => keep b o n (s1 _ _ q)) upd_same nd0 ne (by rw [upd_ne ne, upd_same]) (r1.keep (s1 _ _ ha) keep)
  have ef2 : fdA K (ma K (ga K "Barred") "__init__") = PySem.W.fnX "__init__" "Barred.__init__" (defArgs (inClass (top 22) 0)) (defBody (inClass (top 22) 0)) (defScope (inClass (top 22) 0)) [("__class__", cc)] .none kV doc pm an (.ref cda) ct := ef
  refine ⟨by rw [ef2]; exact G, h.glo "Barred", ee, ?_⟩
  rw [ef2]
  exact .all fun us hl => match us, hl with | [_, _], _ => rfl
theorem sx_ZeroRow : SupScope ps_X_ZeroRow ps_X_ZeroRow (defScope (inClass (top 23) 0)) := ⟨rfl, rfl, rfl, by decide +kernel, rfl, by decide +kernel, by decide +kernel, by decide +kernel, by decide +kernel, by decide +kernel⟩
theorem ok_X_ZeroRow (h : HK K mg) : CalX PR w K mg base 1 "ZeroRow" ps_X_ZeroRow (sp_X_ZeroRow K) := by
  obtain ⟨cc, cda, oc, od, kV, doc, pm, an, ct, osl, ef, lk, hcd, T⟩ := h.init "ZeroRow" 74 (d := x_ZeroRow) rfl rfl rfl rfl
  have ee := h.ef "ZeroRow"
  have G : FnOk PR w K mg base (L2.CX PR w) (0 + 1) (ma K (ga K "ZeroRow") "__init__") (PySem.W.fnX "__init__" "ZeroRow.__init__" (defArgs (inClass (top 23) 0)) (defBody (inClass (top 23) 0)) (defScope (inClass (top 23) 0)) [("__class__", cc)] .none kV doc pm an (.ref cda) ct) ps_X_ZeroRow (sp_X_ZeroRow K) := by
    refine fn_ofS (pa := ⟨0, 0, 0, 0⟩) lk hcd sx_ZeroRow rfl ⟨_, _, rfl⟩ T (fun L => ⟨_, rfl⟩) (fun vs H Q E hs => by (repeat (obtain ⟨_, hs⟩ := hs)) <;> subst_vars <;> rfl) (fun vs H Q E hs => ?_) (fun A outer s H vs Q E hr hs => ?_)
    · obtain ⟨a, rfl, ha, _⟩ := hs
      exact ⟨a, [], rfl, ha⟩
    · obtain ⟨a, rfl, ha, hq⟩ := hs
      exact ⟨_, pss_nil, hq⟩
  have ef2 : fdA K (ma K (ga K "ZeroRow") "__init__") = PySem.W.fnX "__init__" "ZeroRow.__init__" (defArgs (inClass (top 23) 0)) (defBody (inClass (top 23) 0)) (defScope (inClass (top 23) 0)) [("__class__", cc)] .none kV doc pm an (.ref cda) ct := ef
  refine ⟨by rw [ef2]; exact G, h.glo "ZeroRow", ee, ?_⟩
  rw [ef2]
  exact .all fun us hl => match us, hl with | [_], _ => rfl
theorem sx_NoMirror : SupScope ps_X_NoMirror ps_X_NoMirror (defScope (inClass (top 24) 0)) := ⟨rfl, rfl, rfl, by decide +kernel, rfl, by decide +kernel, by decide +kernel, by decide +kernel, by decide +kernel, by decide +kernel⟩
theorem ok_X_NoMirror (h : HK K mg) (c_copied : Cal PR w K mg base 2 "copied" ["value"] (sp_copied K)) : CalX PR w K mg base 3 "NoMirror" ps_X_NoMirror (sp_X_NoMirror K) := by
  obtain ⟨cc, cda, oc, od, kV, doc, pm, an, ct, osl, ef, lk, hcd, T⟩ := h.init "NoMirror" 75 (d := x_NoMirror) rfl rfl rfl rfl
  have ee := h.ef "NoMirror"
  have G : FnOk PR w K mg base (L2.CX PR w) (2 + 1) (ma K (ga K "NoMirror") "__init__") (PySem.W.fnX "__init__" "NoMirror.__init__" (defArgs (inClass (top 24) 0)) (defBody (inClass (top 24) 0)) (defScope (inClass (top 24) 0)) [("__class__", cc)] .none kV doc pm an (.ref cda) ct) ps_X_NoMirror (sp_X_NoMirror K) := by
    refine fn_ofS (pa := ⟨0, 0, 0, 0⟩) lk hcd sx_NoMirror rfl ⟨_, _, rfl⟩ T (fun L => ⟨_, rfl⟩) (fun vs H Q E hs => by (repeat (obtain ⟨_, hs⟩ := hs)) <;> subst_vars <;> rfl) (fun vs H Q E hs => ?_) (fun A outer s H vs Q E hr hs => ?_)
    · obtain ⟨a, y, _, rfl, ha, _⟩ := hs
      exact ⟨a, [y], rfl, ha⟩
    · obtain ⟨a, y, c, rfl, ha, hc, hq⟩ := hs
      refine ⟨_, pss_one (ps_ost (pv 0) (pe_cal c_copied hr passL (pa_cons (pv 1) pa_nil))), ?_⟩
      refine ⟨_, rfl, y, c, rfl, hc, fun H1 y1 s1 r1 => ?_⟩
      refine ⟨_, rfl, a, _, rfl, ee.oex, h.fld "NoMirror" "row", .inl ⟨s1 _ _ ha, fun dx nd ne => ?_⟩⟩
      have nd0 : H dx = none := s1.free nd
      have keep : ∀ b o, b ≠ a → H1 b = some o → (upd (upd H1 dx (exd dx [("row", y1)])) a (exo a (ga K "NoMirror") (some dx))) b = some o := fun b o n q => by
        rw [upd_ne n, upd_ne (ne_of_none q nd)]
        exact q
      refine hq _ dx y1 (fun b o n q => keep b o n (s1 _ _ q)) upd_same nd0 ne (by rw [upd_ne ne, upd_same]) (r1.keep (s1 _ _ ha) keep)
  have ef2 : fdA K (ma K (ga K "NoMirror") "__init__") = PySem.W.fnX "__init__" "NoMirror.__init__" (defArgs (inClass (top 24) 0)) (defBody (inClass (top 24) 0)) (defScope (inClass (top 24) 0)) [("__class__", cc)] .none kV doc pm an (.ref cda) ct := ef
  refine ⟨by rw [ef2]; exact G, h.glo "NoMirror", ee, ?_⟩
  rw [ef2]
  exact .all fun us hl => match us, hl with | [_, _], _ => rfl
theorem sx_NoBall : SupScope ps_X_NoBall ps_X_NoBall (defScope (inClass (top 25) 0)) := ⟨rfl, rfl, rfl, by decide +kernel, rfl, by decide +kernel, by decide +kernel, by decide +kernel, by decide +kernel, by decide +kernel⟩
theorem ok_X_NoBall (h : HK K mg) : CalX PR w K mg base 1 "NoBall" ps_X_NoBall (sp_X_NoBall K) := by
  obtain ⟨cc, cda, oc, od, kV, doc, pm, an, ct, osl, ef, lk, hcd, T⟩ := h.init "NoBall" 76 (d := x_NoBall) rfl rfl rfl rfl
  have ee := h.ef "NoBall"
  have G : FnOk PR w K mg base (L2.CX PR w) (0 + 1) (ma K (ga K "NoBall") "__init__") (PySem.W.fnX "__init__" "NoBall.__init__" (defArgs (inClass (top 25) 0)) (defBody (inClass (top 25) 0)) (defScope (inClass (top 25) 0)) [("__class__", cc)] .none kV doc pm an (.ref cda) ct) ps_X_NoBall (sp_X_NoBall K) := by
    refine fn_ofS (pa := ⟨0, 0, 0, 0⟩) lk hcd sx_NoBall rfl ⟨_, _, rfl⟩ T (fun L => ⟨_, rfl⟩) (fun vs H Q E hs => by (repeat (obtain ⟨_, hs⟩ := hs)) <;> subst_vars <;> rfl) (fun vs H Q E hs => ?_) (fun A outer s H vs Q E hr hs => ?_)
    · obtain ⟨a, rfl, ha, _⟩ := hs
      exact ⟨a, [], rfl, ha⟩
    · obtain ⟨a, rfl, ha, hq⟩ := hs
      exact ⟨_, pss_nil, hq⟩
  have ef2 : fdA K (ma K (ga K "NoBall") "__init__") = PySem.W.fnX "__init__" "NoBall.__init__" (defArgs (inClass (top 25) 0)) (defBody (inClass (top 25) 0)) (defScope (inClass (top 25) 0)) [("__class__", cc)] .none kV doc pm an (.ref cda) ct := ef
  refine ⟨by rw [ef2]; exact G, h.glo "NoBall", ee, ?_⟩
  rw [ef2]
  exact .all fun us hl => match us, hl with | [_], _ => rfl
theorem sx_Flat : SupScope ps_X_Flat ps_X_Flat (defScope (inClass (top 26) 0)) := ⟨rfl, rfl, rfl, by decide +kernel, rfl, by decide +kernel, by decide +kernel, by decide +kernel, by decide +kernel, by decide +kernel⟩
theorem ok_X_Flat (h : HK K mg) (c_copied : Cal PR w K mg base 2 "copied" ["value"] (sp_copied K)) : CalX PR w K mg base 3 "Flat" ps_X_Flat (sp_X_Flat K) := by
  obtain ⟨cc, cda, oc, od, kV, doc, pm, an, ct, osl, ef, lk, hcd, T⟩ := h.init "Flat" 77 (d := x_Flat) rfl rfl rfl rfl
  have ee := h.ef "Flat"
  have G : FnOk PR w K mg base (L2.CX PR w) (2 + 1) (ma K (ga K "Flat") "__init__") (PySem.W.fnX "__init__" "Flat.__init__" (defArgs (inClass (top 26) 0)) (defBody (inClass (top 26) 0)) (defScope (inClass (top 26) 0)) [("__class__", cc)] .none kV doc pm an (.ref cda) ct) ps_X_Flat (sp_X_Flat K) := by
    refine fn_ofS (pa := ⟨0, 0, 0, 0⟩) lk hcd sx_Flat rfl ⟨_, _, rfl⟩ T (fun L => ⟨_, rfl⟩) (fun vs H Q E hs => by (repeat (obtain ⟨_, hs⟩ := hs)) <;> subst_vars <;> rfl) (fun vs H Q E hs => ?_) (fun A outer s H vs Q E hr hs => ?_)
    · obtain ⟨a, y, _, rfl, ha, _⟩ := hs
      exact ⟨a, [y], rfl, ha⟩
    · obtain ⟨a, y, c, rfl, ha, hc, hq⟩ := hs
      refine ⟨_, pss_one (ps_ost (pv 0) (pe_cal c_copied hr passL (pa_cons (pv 1) pa_nil))), ?_⟩
      refine ⟨_, rfl, y, c, rfl, hc, fun H1 y1 s1 r1 => ?_⟩
      refine ⟨_, rfl, a, _, rfl, ee.oex, h.fld "Flat" "row", .inl ⟨s1 _ _ ha, fun dx nd ne => ?_⟩⟩
      have nd0 : H dx = none := s1.free nd
      have keep : ∀ b o, b ≠ a → H1 b = some o → (upd (upd H1 dx (exd dx [("row", y1)])) a (exo a (ga K "Flat") (some dx))) b = some o := fun b o n q => by
        rw [upd_ne n, upd_ne (ne_of_none q nd)]
        exact q
      refine hq _ dx y1 (fun b o n q => keep b o n (s1 _ _ q)) upd_same nd0 ne (by rw [upd_ne ne, upd_same]) (r1.keep (s1 _ _ ha) keep)
  have ef2 : fdA K (ma K (ga K "Flat") "__init__") = PySem.W.fnX "__init__" "Flat.__init__" (defArgs (inClass (top 26) 0)) (defBody (inClass (top 26) 0)) (defScope (inClass (top 26) 0)) [("__class__", cc)] .none kV doc pm an (.ref cda) ct := ef
  refine ⟨by rw [ef2]; exact G, h.glo "Flat", ee, ?_⟩
  rw [ef2]
  exact .all fun us hl => match us, hl with | [_, _], _ => rfl
theorem sx_Loose : SupScope ps_X_Loose ps_X_Loose (defScope (inClass (top 27) 0)) := ⟨rfl, rfl, rfl, by decide +kernel, rfl, by decide +kernel, by decide +kernel, by decide +kernel, by decide +kernel, by decide +kernel⟩
theorem ok_X_Loose (h : HK K mg) (c_copied : Cal PR w K mg base 2 "copied" ["value"] (sp_copied K)) : CalX PR w K mg base 3 "Loose" ps_X_Loose (sp_X_Loose K) := by
  obtain ⟨cc, cda, oc, od, kV, doc, pm, an, ct, osl, ef, lk, hcd, T⟩ := h.init "Loose" 78 (d := x_Loose) rfl rfl rfl rfl
  have ee := h.ef "Loose"
  have G : FnOk PR w K mg base (L2.CX PR w) (2 + 1) (ma K (ga K "Loose") "__init__") (PySem.W.fnX "__init__" "Loose.__init__" (defArgs (inClass (top 27) 0)) (defBody (inClass (top 27) 0)) (defScope (inClass (top 27) 0)) [("__class__", cc)] .none kV doc pm an (.ref cda) ct) ps_X_Loose (sp_X_Loose K) := by
    refine fn_ofS (pa := ⟨0, 0, 0, 0⟩) lk hcd sx_Loose rfl ⟨_, _, rfl⟩ T (fun L => ⟨_, rfl⟩) (fun vs H Q E hs => by (repeat (obtain ⟨_, hs⟩ := hs)) <;> subst_vars <;> rfl) (fun vs H Q E hs => ?_) (fun A outer s H vs Q E hr hs => ?_)
    · obtain ⟨a, y, _, rfl, ha, _⟩ := hs
      exact ⟨a, [y], rfl, ha⟩
    · obtain ⟨a, y, c, rfl, ha, hc, hq⟩ := hs
      refine ⟨_, pss_one (ps_ost (pv 0) (pe_cal c_copied hr passL (pa_cons (pv 1) pa_nil))), ?_⟩
      refine ⟨_, rfl, y, c, rfl, hc, fun H1 y1 s1 r1 => ?_⟩
      refine ⟨_, rfl, a, _, rfl, ee.oex, h.fld "Loose" "lot", .inl ⟨s1 _ _ ha, fun dx nd ne => ?_⟩⟩
      have nd0 : H dx = none := s1.free nd
      have keep : ∀ b o, b ≠ a → H1 b = some o → (upd (upd H1 dx (exd dx [("lot", y1)])) a (exo a (ga K "Loose") (some dx))) b = some o := fun b o n q => by
        rw [upd_ne n, upd_ne (ne_of_none q nd)]
        exact q
      refine hq _ dx y1 (fun b o n q => keep b o n (s1 _ _ q)) upd_same nd0 ne (by rw [upd_ne ne, upd_same]) (r1.keep (s1 _ _ ha) keep)
  have ef2 : fdA K (ma K (ga K "Loose") "__init__") = PySem.W.fnX "__init__" "Loose.__init__" (defArgs (inClass (top 27) 0)) (defBody (inClass (top 27) 0)) (defScope (inClass (top 27) 0)) [("__class__", cc)] .none kV doc pm an (.ref cda) ct := ef
  refine ⟨by rw [ef2]; exact G, h.glo "Loose", ee, ?_⟩
  rw [ef2]
  exact .all fun us hl => match us, hl with | [_, _], _ => rfl
theorem sx_TooMany : SupScope ps_X_TooMany ps_X_TooMany (defScope (inClass (top 28) 0)) := ⟨rfl, rfl, rfl, by decide +kernel, rfl, by decide +kernel, by decide +kernel, by decide +kernel, by decide +kernel, by decide +kernel⟩
theorem ok_X_TooMany (h : HK K mg) : CalX PR w K mg base 1 "TooMany" ps_X_TooMany (sp_X_TooMany K) := by
  obtain ⟨cc, cda, oc, od, kV, doc, pm, an, ct, osl, ef, lk, hcd, T⟩ := h.init "TooMany" 79 (d := x_TooMany) rfl rfl rfl rfl
  have ee := h.ef "TooMany"
  have G : FnOk PR w K mg base (L2.CX PR w) (0 + 1) (ma K (ga K "TooMany") "__init__") (PySem.W.fnX "__init__" "TooMany.__init__" (defArgs (inClass (top 28) 0)) (defBody (inClass (top 28) 0)) (defScope (inClass (top 28) 0)) [("__class__", cc)] .none kV doc pm an (.ref cda) ct) ps_X_TooMany (sp_X_TooMany K) := by
    refine fn_ofS (pa := ⟨0, 0, 0, 0⟩) lk hcd sx_TooMany rfl ⟨_, _, rfl⟩ T (fun L => ⟨_, rfl⟩) (fun vs H Q E hs => by (repeat (obtain ⟨_, hs⟩ := hs)) <;> subst_vars <;> rfl) (fun vs H Q E hs => ?_) (fun A outer s H vs Q E hr hs => ?_)
    · obtain ⟨a, y, rfl, ha, _⟩ := hs
      exact ⟨a, [y], rfl, ha⟩
    · obtain ⟨a, y, rfl, ha, hq⟩ := hs
      refine ⟨_, pss_one (ps_ost (pv 0) (pv 1)), ?_⟩
      refine ⟨_, rfl, _, rfl, a, _, rfl, ee.oex, h.fld "TooMany" "most", .inl ⟨ha, fun dx nd ne => ?_⟩⟩
      refine hq _ dx (fun b o n q => ?_) upd_same nd ne (by rw [upd_ne ne, upd_same])
      rw [upd_ne n, upd_ne (ne_of_none q nd)]
      exact q
  have ef2 : fdA K (ma K (ga K "TooMany") "__init__") = PySem.W.fnX "__init__" "TooMany.__init__" (defArgs (inClass (top 28) 0)) (defBody (inClass (top 28) 0)) (defScope (inClass (top 28) 0)) [("__class__", cc)] .none kV doc pm an (.ref cda) ct := ef
  refine ⟨by rw [ef2]; exact G, h.glo "TooMany", ee, ?_⟩
  rw [ef2]
  exact .all fun us hl => match us, hl with | [_, _], _ => rfl
theorem sx_TooLarge : SupScope ps_X_TooLarge ps_X_TooLarge (defScope (inClass (top 29) 0)) := ⟨rfl, rfl, rfl, by decide +kernel, rfl, by decide +kernel, by decide +kernel, by decide +kernel, by decide +kernel, by decide +kernel⟩
theorem ok_X_TooLarge (h : HK K mg) : CalX PR w K mg base 1 "TooLarge" ps_X_TooLarge (sp_X_TooLarge K) := by
  obtain ⟨cc, cda, oc, od, kV, doc, pm, an, ct, osl, ef, lk, hcd, T⟩ := h.init "TooLarge" 80 (d := x_TooLarge) rfl rfl rfl rfl
  have ee := h.ef "TooLarge"
  have G : FnOk PR w K mg base (L2.CX PR w) (0 + 1) (ma K (ga K "TooLarge") "__init__") (PySem.W.fnX "__init__" "TooLarge.__init__" (defArgs (inClass (top 29) 0)) (defBody (inClass (top 29) 0)) (defScope (inClass (top 29) 0)) [("__class__", cc)] .none kV doc pm an (.ref cda) ct) ps_X_TooLarge (sp_X_TooLarge K) := by
    refine fn_ofS (pa := ⟨0, 0, 0, 0⟩) lk hcd sx_TooLarge rfl ⟨_, _, rfl⟩ T (fun L => ⟨_, rfl⟩) (fun vs H Q E hs => by (repeat (obtain ⟨_, hs⟩ := hs)) <;> subst_vars <;> rfl) (fun vs H Q E hs => ?_) (fun A outer s H vs Q E hr hs => ?_)
    · obtain ⟨a, y, rfl, ha, _⟩ := hs
      exact ⟨a, [y], rfl, ha⟩
    · obtain ⟨a, y, rfl, ha, hq⟩ := hs
      refine ⟨_, pss_one (ps_ost (pv 0) (pv 1)), ?_⟩
      refine ⟨_, rfl, _, rfl, a, _, rfl, ee.oex, h.fld "TooLarge" "value", .inl ⟨ha, fun dx nd ne => ?_⟩⟩
      refine hq _ dx (fun b o n q => ?_) upd_same nd ne (by rw [upd_ne ne, upd_same])
      rw [upd_ne n, upd_ne (ne_of_none q nd)]
      exact q
  have ef2 : fdA K (ma K (ga K "TooLarge") "__init__") = PySem.W.fnX "__init__" "TooLarge.__init__" (defArgs (inClass (top 29) 0)) (defBody (inClass (top 29) 0)) (defScope (inClass (top 29) 0)) [("__class__", cc)] .none kV doc pm an (.ref cda) ct := ef
  refine ⟨by rw [ef2]; exact G, h.glo "TooLarge", ee, ?_⟩
  rw [ef2]
  exact .all fun us hl => match us, hl with | [_, _], _ => rfl
theorem sx_Ended : SupScope ps_X_Ended ps_X_Ended (defScope (inClass (top 30) 0)) := ⟨rfl, rfl, rfl, by decide +kernel, rfl, by decide +kernel, by decide +kernel, by decide +kernel, by decide +kernel, by decide +kernel⟩
theorem ok_X_Ended (h : HK K mg) : CalX PR w K mg base 1 "Ended" ps_X_Ended (sp_X_Ended K) := by
  obtain ⟨cc, cda, oc, od, kV, doc, pm, an, ct, osl, ef, lk, hcd, T⟩ := h.init "Ended" 81 (d := x_Ended) rfl rfl rfl rfl
  have ee := h.ef "Ended"
  have G : FnOk PR w K mg base (L2.CX PR w) (0 + 1) (ma K (ga K "Ended") "__init__") (PySem.W.fnX "__init__" "Ended.__init__" (defArgs (inClass (top 30) 0)) (defBody (inClass (top 30) 0)) (defScope (inClass (top 30) 0)) [("__class__", cc)] .none kV doc pm an (.ref cda) ct) ps_X_Ended (sp_X_Ended K) := by
    refine fn_ofS (pa := ⟨0, 0, 0, 0⟩) lk hcd sx_Ended rfl ⟨_, _, rfl⟩ T (fun L => ⟨_, rfl⟩) (fun vs H Q E hs => by (repeat (obtain ⟨_, hs⟩ := hs)) <;> subst_vars <;> rfl) (fun vs H Q E hs => ?_) (fun A outer s H vs Q E hr hs => ?_)
    · obtain ⟨a, rfl, ha, _⟩ := hs
      exact ⟨a, [], rfl, ha⟩
    · obtain ⟨a, rfl, ha, hq⟩ := hs
      exact ⟨_, pss_nil, hq⟩
  have ef2 : fdA K (ma K (ga K "Ended") "__init__") = PySem.W.fnX "__init__" "Ended.__init__" (defArgs (inClass (top 30) 0)) (defBody (inClass (top 30) 0)) (defScope (inClass (top 30) 0)) [("__class__", cc)] .none kV doc pm an (.ref cda) ct := ef
  refine ⟨by rw [ef2]; exact G, h.glo "Ended", ee, ?_⟩
  rw [ef2]
  exact .all fun us hl => match us, hl with | [_], _ => rfl
theorem sx_NothingToUndo : SupScope ps_X_NothingToUndo ps_X_NothingToUndo (defScope (inClass (top 31) 0)) := ⟨rfl, rfl, rfl, by decide +kernel, rfl, by decide +kernel, by decide +kernel, by decide +kernel, by decide +kernel, by decide +kernel⟩
theorem ok_X_NothingToUndo (h : HK K mg) : CalX PR w K mg base 1 "NothingToUndo" ps_X_NothingToUndo (sp_X_NothingToUndo K) := by
  obtain ⟨cc, cda, oc, od, kV, doc, pm, an, ct, osl, ef, lk, hcd, T⟩ := h.init "NothingToUndo" 82 (d := x_NothingToUndo) rfl rfl rfl rfl
  have ee := h.ef "NothingToUndo"
  have G : FnOk PR w K mg base (L2.CX PR w) (0 + 1) (ma K (ga K "NothingToUndo") "__init__") (PySem.W.fnX "__init__" "NothingToUndo.__init__" (defArgs (inClass (top 31) 0)) (defBody (inClass (top 31) 0)) (defScope (inClass (top 31) 0)) [("__class__", cc)] .none kV doc pm an (.ref cda) ct) ps_X_NothingToUndo (sp_X_NothingToUndo K) := by
    refine fn_ofS (pa := ⟨0, 0, 0, 0⟩) lk hcd sx_NothingToUndo rfl ⟨_, _, rfl⟩ T (fun L => ⟨_, rfl⟩) (fun vs H Q E hs => by (repeat (obtain ⟨_, hs⟩ := hs)) <;> subst_vars <;> rfl) (fun vs H Q E hs => ?_) (fun A outer s H vs Q E hr hs => ?_)
    · obtain ⟨a, rfl, ha, _⟩ := hs
      exact ⟨a, [], rfl, ha⟩
    · obtain ⟨a, rfl, ha, hq⟩ := hs
      exact ⟨_, pss_nil, hq⟩
  have ef2 : fdA K (ma K (ga K "NothingToUndo") "__init__") = PySem.W.fnX "__init__" "NothingToUndo.__init__" (defArgs (inClass (top 31) 0)) (defBody (inClass (top 31) 0)) (defScope (inClass (top 31) 0)) [("__class__", cc)] .none kV doc pm an (.ref cda) ct := ef
  refine ⟨by rw [ef2]; exact G, h.glo "NothingToUndo", ee, ?_⟩
  rw [ef2]
  exact .all fun us hl => match us, hl with | [_], _ => rfl
theorem sx_NothingToRedo : SupScope ps_X_NothingToRedo ps_X_NothingToRedo (defScope (inClass (top 32) 0)) := ⟨rfl, rfl, rfl, by decide +kernel, rfl, by decide +kernel, by decide +kernel, by decide +kernel, by decide +kernel, by decide +kernel⟩
theorem ok_X_NothingToRedo (h : HK K mg) : CalX PR w K mg base 1 "NothingToRedo" ps_X_NothingToRedo (sp_X_NothingToRedo K) := by
  obtain ⟨cc, cda, oc, od, kV, doc, pm, an, ct, osl, ef, lk, hcd, T⟩ := h.init "NothingToRedo" 83 (d := x_NothingToRedo) rfl rfl rfl rfl
  have ee := h.ef "NothingToRedo"
  have G : FnOk PR w K mg base (L2.CX PR w) (0 + 1) (ma K (ga K "NothingToRedo") "__init__") (PySem.W.fnX "__init__" "NothingToRedo.__init__" (defArgs (inClass (top 32) 0)) (defBody (inClass (top 32) 0)) (defScope (inClass (top 32) 0)) [("__class__", cc)] .none kV doc pm an (.ref cda) ct) ps_X_NothingToRedo (sp_X_NothingToRedo K) := by
    refine fn_ofS (pa := ⟨0, 0, 0, 0⟩) lk hcd sx_NothingToRedo rfl ⟨_, _, rfl⟩ T (fun L => ⟨_, rfl⟩) (fun vs H Q E hs => by (repeat (obtain ⟨_, hs⟩ := hs)) <;> subst_vars <;> rfl) (fun vs H Q E hs => ?_) (fun A outer s H vs Q E hr hs => ?_)
    · obtain ⟨a, rfl, ha, _⟩ := hs
      exact ⟨a, [], rfl, ha⟩
    · obtain ⟨a, rfl, ha, hq⟩ := hs
      exact ⟨_, pss_nil, hq⟩
  have ef2 : fdA K (ma K (ga K "NothingToRedo") "__init__") = PySem.W.fnX "__init__" "NothingToRedo.__init__" (defArgs (inClass (top 32) 0)) (defBody (inClass (top 32) 0)) (defScope (inClass (top 32) 0)) [("__class__", cc)] .none kV doc pm an (.ref cda) ct := ef
  refine ⟨by rw [ef2]; exact G, h.glo "NothingToRedo", ee, ?_⟩
  rw [ef2]
  exact .all fun us hl => match us, hl with | [_], _ => rfl
theorem sx_NoDeed : SupScope ps_X_NoDeed ps_X_NoDeed (defScope (inClass (top 33) 0)) := ⟨rfl, rfl, rfl, by decide +kernel, rfl, by decide +kernel, by decide +kernel, by decide +kernel, by decide +kernel, by decide +kernel⟩
theorem ok_X_NoDeed (h : HK K mg) : CalX PR w K mg base 1 "NoDeed" ps_X_NoDeed (sp_X_NoDeed K) := by
  obtain ⟨cc, cda, oc, od, kV, doc, pm, an, ct, osl, ef, lk, hcd, T⟩ := h.init "NoDeed" 84 (d := x_NoDeed) rfl rfl rfl rfl
  have ee := h.ef "NoDeed"
  have G : FnOk PR w K mg base (L2.CX PR w) (0 + 1) (ma K (ga K "NoDeed") "__init__") (PySem.W.fnX "__init__" "NoDeed.__init__" (defArgs (inClass (top 33) 0)) (defBody (inClass (top 33) 0)) (defScope (inClass (top 33) 0)) [("__class__", cc)] .none kV doc pm an (.ref cda) ct) ps_X_NoDeed (sp_X_NoDeed K) := by
    refine fn_ofS (pa := ⟨0, 0, 0, 0⟩) lk hcd sx_NoDeed rfl ⟨_, _, rfl⟩ T (fun L => ⟨_, rfl⟩) (fun vs H Q E hs => by (repeat (obtain ⟨_, hs⟩ := hs)) <;> subst_vars <;> rfl) (fun vs H Q E hs => ?_) (fun A outer s H vs Q E hr hs => ?_)
    · obtain ⟨a, y, rfl, ha, _⟩ := hs
      exact ⟨a, [y], rfl, ha⟩
    · obtain ⟨a, y, rfl, ha, hq⟩ := hs
      refine ⟨_, pss_one (ps_ost (pv 0) (pv 1)), ?_⟩
      refine ⟨_, rfl, _, rfl, a, _, rfl, ee.oex, h.fld "NoDeed" "name", .inl ⟨ha, fun dx nd ne => ?_⟩⟩
      refine hq _ dx (fun b o n q => ?_) upd_same nd ne (by rw [upd_ne ne, upd_same])
      rw [upd_ne n, upd_ne (ne_of_none q nd)]
      exact q
  have ef2 : fdA K (ma K (ga K "NoDeed") "__init__") = PySem.W.fnX "__init__" "NoDeed.__init__" (defArgs (inClass (top 33) 0)) (defBody (inClass (top 33) 0)) (defScope (inClass (top 33) 0)) [("__class__", cc)] .none kV doc pm an (.ref cda) ct := ef
  refine ⟨by rw [ef2]; exact G, h.glo "NoDeed", ee, ?_⟩
  rw [ef2]
  exact .all fun us hl => match us, hl with | [_, _], _ => rfl
theorem sx_Stopped : SupScope ps_X_Stopped ps_X_Stopped (defScope (inClass (top 34) 0)) := ⟨rfl, rfl, rfl, by decide +kernel, rfl, by decide +kernel, by decide +kernel, by decide +kernel, by decide +kernel, by decide +kernel⟩
theorem ok_X_Stopped (h : HK K mg) : CalX PR w K mg base 1 "Stopped" ps_X_Stopped (sp_X_Stopped K) := by
  obtain ⟨cc, cda, oc, od, kV, doc, pm, an, ct, osl, ef, lk, hcd, T⟩ := h.init "Stopped" 85 (d := x_Stopped) rfl rfl rfl rfl
  have ee := h.ef "Stopped"
  have G : FnOk PR w K mg base (L2.CX PR w) (0 + 1) (ma K (ga K "Stopped") "__init__") (PySem.W.fnX "__init__" "Stopped.__init__" (defArgs (inClass (top 34) 0)) (defBody (inClass (top 34) 0)) (defScope (inClass (top 34) 0)) [("__class__", cc)] .none kV doc pm an (.ref cda) ct) ps_X_Stopped (sp_X_Stopped K) := by
    refine fn_ofS (pa := ⟨0, 0, 0, 0⟩) lk hcd sx_Stopped rfl ⟨_, _, rfl⟩ T (fun L => ⟨_, rfl⟩) (fun vs H Q E hs => by (repeat (obtain ⟨_, hs⟩ := hs)) <;> subst_vars <;> rfl) (fun vs H Q E hs => ?_) (fun A outer s H vs Q E hr hs => ?_)
    · obtain ⟨a, y, rfl, ha, _⟩ := hs
      exact ⟨a, [y], rfl, ha⟩
    · obtain ⟨a, y, rfl, ha, hq⟩ := hs
      refine ⟨_, pss_one (ps_ost (pv 0) (pv 1)), ?_⟩
      refine ⟨_, rfl, _, rfl, a, _, rfl, ee.oex, h.fld "Stopped" "at", .inl ⟨ha, fun dx nd ne => ?_⟩⟩
      refine hq _ dx (fun b o n q => ?_) upd_same nd ne (by rw [upd_ne ne, upd_same])
      rw [upd_ne n, upd_ne (ne_of_none q nd)]
      exact q
  have ef2 : fdA K (ma K (ga K "Stopped") "__init__") = PySem.W.fnX "__init__" "Stopped.__init__" (defArgs (inClass (top 34) 0)) (defBody (inClass (top 34) 0)) (defScope (inClass (top 34) 0)) [("__class__", cc)] .none kV doc pm an (.ref cda) ct := ef
  refine ⟨by rw [ef2]; exact G, h.glo "Stopped", ee, ?_⟩
  rw [ef2]
  exact .all fun us hl => match us, hl with | [_, _], _ => rfl
end
end K0
namespace K0
open PySem PySem.Spec PyProof.Rows L2 He HX KF
section
variable {P : Program} {w : World} {K : PySem.W.Frag} {mg : Str → Option Value} {base : Heap}
def NN_copied : List PySem.Str := ["value", "part"]
theorem sc_copied : FnScope NN_copied ["value"] (defScope (top 1)) := ⟨rfl, rfl, rfl, by decide +kernel, rfl, by decide +kernel, by decide +kernel⟩
def spCop0 : Sp := fun vs H Q _ => ∃ i : Int, vs = [.int i] ∧ Q (.int i) H
theorem tyx_tup {K : PySem.W.Frag} {H : Hp} {a : Addr} {xs : List V} (h : SqT K H a xs) : TyX K H (.ref a) (.type "tuple") := by
  rcases h with (h | ⟨o, h⟩) | ⟨o, its, n, h, c, _⟩
  · exact .base (.tup h)
  · exact .fTuple h
  · exact .kTuple h c
theorem tyx_lst {K : PySem.W.Frag} {H : Hp} {a : Addr} {xs : List V} (h : SqL K H a xs) : TyX K H (.ref a) (.type "list") := by
  rcases h with (h | ⟨o, h⟩) | ⟨o, its, n, h, c, _⟩
  · exact .base (.lst h)
  · exact .base (.frz h)
  · exact .kList h c
theorem ok_copied0 (h : HK K mg) : Cal P w K mg base 1 "copied" ["value"] spCop0 := by
  have F : FunD K "copied" "copied" (defArgs (top 1)) (defBody (top 1)) (defScope (top 1)) [] [] (ga K "copied") (fdA K (ga K "copied")) := h.says.funD 0
  have G : FnOk P w K mg base (L2.CX P w) (0 + 1) (ga K "copied") (fdA K (ga K "copied")) ["value"] spCop0 := okX F sc_copied (fun vs H Q E hs => by (repeat (obtain ⟨_, hs⟩ := hs)) <;> subst_vars <;> rfl) (fun cdv A outer s H vs Q E hr hs => ?_)
  · exact ⟨G, h.glo _, F.kp, F.bindsN (fun _ _ _ _ _ _ us hl => match us, hl with | [_], _ => rfl)⟩
  refine ⟨_, (pss_cons (ps_if (pt_val (pe_callB call_isi (by rfl) (h.free "isinstance") (by decide +kernel) (pa_cons (pv 0) (pa_cons (pe_bltn (v := .ty "list") (by rfl) (h.free "list") (by decide +kernel) rfl) pa_nil))))
        pss_never
        pss_nil)
      (pss_cons (ps_if (pt_val (pe_callB call_isi (by rfl) (h.free "isinstance") (by decide +kernel) (pa_cons (pv 0) (pa_cons (pe_bltn (v := .ty "tuple") (by rfl) (h.free "tuple") (by decide +kernel) rfl) pa_nil))))
        pss_never
        pss_nil)
      (pss_one (ps_ret (pv 0))))), ?_⟩
  obtain ⟨i, rfl, hq⟩ := hs
  refine ⟨_, rfl, _, _, _, _, _, rfl, .ty _, .base (.int _), kit_ty (r := false) (by decide +kernel), _, rfl, iteF ?_⟩
  exact ⟨_, rfl, _, _, _, _, _, rfl, .ty _, .base (.int _), kit_ty (r := false) (by decide +kernel), _, rfl, iteF ⟨_, rfl, hq⟩⟩
theorem ok_copied (h : HK K mg) : Cal P w K mg base 2 "copied" ["value"] (sp_copied K) := by
  have c0 : Cal P w K mg base 1 "copied" ["value"] spCop0 := ok_copied0 h
  have F : FunD K "copied" "copied" (defArgs (top 1)) (defBody (top 1)) (defScope (top 1)) [] [] (ga K "copied") (fdA K (ga K "copied")) := h.says.funD 0
  have G : FnOk P w K mg base (L2.CX P w) (1 + 1) (ga K "copied") (fdA K (ga K "copied")) ["value"] (sp_copied K) := okX F sc_copied (fun vs H Q E hs => by (repeat (obtain ⟨_, hs⟩ := hs)) <;> subst_vars <;> rfl) (fun cdv A outer s H vs Q E hr hs => ?_)
  · exact ⟨G, h.glo _, F.kp, F.bindsN (fun _ _ _ _ _ _ us hl => match us, hl with | [_], _ => rfl)⟩
  refine ⟨_, (pss_cons (ps_if (pt_val (pe_callB call_isi (by rfl) (h.free "isinstance") (by decide +kernel) (pa_cons (pv 0) (pa_cons (pe_bltn (v := .ty "list") (by rfl) (h.free "list") (by decide +kernel) rfl) pa_nil))))
        (pss_one (ps_ret (pe_lc (own := [("part", 1)]) (g := gName 1) (by rfl) sc_copied.nd (pi_list (pv 0)) (blkOk_by (own := [("part", 1)]) (N := NN_copied) (sc := defScope (top 1)) (by decide +kernel)) (fun _ _ _ _ _ => pg_name (i := 1) sc_copied.nd rfl (Or.inl rfl)) (fun _ _ _ _ _ => pts_nil) (fun _ _ _ _ _ => (pe_cal c0 hr passL (pa_cons (pv 1) pa_nil))))))
        pss_nil)
      (pss_cons (ps_if (pt_val (pe_callB call_isi (by rfl) (h.free "isinstance") (by decide +kernel) (pa_cons (pv 0) (pa_cons (pe_bltn (v := .ty "tuple") (by rfl) (h.free "tuple") (by decide +kernel) rfl) pa_nil))))
        (pss_one (ps_ret (pe_callTy call_tuple_of (by rfl) (h.free "tuple") (by decide +kernel) (pa_cons (pe_lc (own := [("part", 1)]) (g := gName 1) (by rfl) sc_copied.nd (pi_tup (pv 0)) (blkOk_by (own := [("part", 1)]) (N := NN_copied) (sc := defScope (top 1)) (by decide +kernel)) (fun _ _ _ _ _ => pg_name (i := 1) sc_copied.nd rfl (Or.inl rfl)) (fun _ _ _ _ _ => pts_nil) (fun _ _ _ _ _ => (pe_cal c0 hr passL (pa_cons (pv 1) pa_nil)))) pa_nil))))
        pss_nil)
      (pss_one (ps_ret (pv 0))))), ?_⟩
  have step : ∀ (D : Addr) (ns : List Int) (i : Nat) (x : V), H D = none → ns.length ≤ 100 → (ns.map V.int)[i]? = some x → ∃ c : Int, x = .int c ∧ ((((ns.take i).map V.int)).length < sizeLine) ∧ upd (upd H D (.lst ((ns.take i).map V.int))) D (.lst ((ns.take i).map V.int ++ [V.int c])) = upd H D (.lst ((ns.take (i + 1)).map V.int)) := fun D ns i x hD hn hv => by
    rw [List.getElem?_map] at hv
    obtain ⟨c, ec, rfl⟩ := Option.map_eq_some_iff.mp hv
    refine ⟨c, rfl, small_lt (by rw [List.length_map, List.length_take]; omega), ?_⟩
    rw [upd_upd, List.take_succ, ec, List.map_append]
    rfl
  obtain ⟨v, c, rfl, hv, hq⟩ := hs
  rcases c with i | ns | ns
  · cases (show v = V.int i from hv)
    refine ⟨_, rfl, _, _, _, _, _, rfl, .ty _, .base (.int _), kit_ty (r := false) (by decide +kernel), _, rfl, iteF ?_⟩
    exact ⟨_, rfl, _, _, _, _, _, rfl, .ty _, .base (.int _), kit_ty (r := false) (by decide +kernel), _, rfl, iteF ⟨_, rfl, hq H _ (Same.refl H) rfl⟩⟩
  · obtain ⟨a, rfl, hn, ha⟩ := hv
    refine ⟨_, rfl, _, _, _, _, _, rfl, .ty _, tyx_tup ha, kit_ty (r := false) (by decide +kernel), _, rfl, iteF ?_⟩
    refine ⟨_, rfl, _, _, _, _, _, rfl, .ty _, tyx_tup ha, kit_ty (r := true) (by decide +kernel), _, rfl, iteT ?_⟩
    refine ⟨_, rfl, a, rfl, ⟨_, ha⟩, fun D hD => lc_tup (K := K) (a := a) (xs := ns.map V.int) (fun i H' => H' = upd H D (.lst ((ns.take i).map V.int))) rfl ?_ ?_ ?_⟩
    · rintro i H' _ rfl
      exact (same_upd hD).tup ha
    · rintro i x H' hx rfl
      obtain ⟨c, rfl, hz, he⟩ := step D ns i x hD hn hx
      exact ⟨rfl, _, rfl, c, rfl, _, upd_same, hz, he⟩
    · rintro H' rfl
      rw [List.length_map, List.take_length]
      exact ⟨D, _, rfl, .inl ⟨SqL.of upd_same, fun q hq' => hq _ _ ((same_upd hD).trans (same_upd hq')) ⟨q, rfl, SqT.of upd_same⟩⟩⟩
  · obtain ⟨a, rfl, hn, ha⟩ := hv
    refine ⟨_, rfl, _, _, _, _, _, rfl, .ty _, tyx_lst ha, kit_ty (r := true) (by decide +kernel), _, rfl, iteT ?_⟩
    refine ⟨_, rfl, a, rfl, ⟨_, ha⟩, fun D hD => lc_list (K := K) (a := a) (xs := ns.map V.int) (fun i H' => H' = upd H D (.lst ((ns.take i).map V.int))) rfl ?_ ?_ ?_⟩
    · rintro i H' _ rfl
      exact (same_upd hD).seq ha
    · rintro i x H' hx rfl
      obtain ⟨c, rfl, hz, he⟩ := step D ns i x hD hn hx
      exact ⟨rfl, _, rfl, c, rfl, _, upd_same, hz, he⟩
    · rintro H' rfl
      rw [List.length_map, List.take_length]
      exact hq _ _ (same_upd hD) ⟨D, rfl, hD, upd_same⟩
end
end K0
namespace K0
open PySem PySem.Spec PyProof.Rows L2 He HX KF
section
variable {P : Program} {w : World} {K : PySem.W.Frag} {mg : Str → Option Value} {base : Heap}
def NN_Frac_compare : List PySem.Str := ["self", "other", "num", "den", "left", "right"]
theorem sc_Frac_compare : FnScope NN_Frac_compare ["self", "other"] (defScope (inClass (top 41) 12)) := ⟨rfl, rfl, rfl, by decide +kernel, rfl, by decide +kernel, by decide +kernel⟩
theorem ok_Frac_compare (h : HK K mg) (c_num_den : Cal P w K mg base 1 "num_den" ["number"] (sp_num_den K)) : CalM P w K mg base 2 (fC K) "compare" ["self", "other"] (sp_Frac_compare K) := by
  have F : FunD K "compare" "Frac.compare" (defArgs (inClass (top 41) 12)) (defBody (inClass (top 41) 12)) (defScope (inClass (top 41) 12)) [] [] (ma K (ga K "Frac") "compare") (fdA K (ma K (ga K "Frac") "compare")) := h.says.funD 13
  have G : FnOk P w K mg base (L2.CX P w) (1 + 1) (ma K (ga K "Frac") "compare") (fdA K (ma K (ga K "Frac") "compare")) ["self", "other"] (sp_Frac_compare K) := okX F sc_Frac_compare (fun vs H Q E hs => by (repeat (obtain ⟨_, hs⟩ := hs)) <;> subst_vars <;> rfl) (fun cdv A outer s H vs Q E hr hs => ?_)
  · exact ⟨G, h.ff.cls, h.ff.meth _ (by decide +kernel), F.bindsN (fun _ _ _ _ _ _ us hl => match us, hl with | [_, _], _ => rfl)⟩
  refine ⟨_, (pss_cons (ps_asg (pe_cal c_num_den hr passL (pa_cons (pv 1) pa_nil)) (pg_tup (by rfl) (pgs_cons (pg_name (i := 2) sc_Frac_compare.nd rfl (by first | exact Or.inl rfl | exact Or.inr rfl)) (pgs_cons (pg_name (i := 3) sc_Frac_compare.nd rfl (by first | exact Or.inl rfl | exact Or.inr rfl)) pgs_nil))))
      (pss_cons (ps_set (i := 4) sc_Frac_compare.nd rfl (by first | exact Or.inl rfl | exact Or.inr rfl) (pe_op op_mulW (pe_fld (pv 0) (by rfl)) (pv 3)))
      (pss_cons (ps_set (i := 5) sc_Frac_compare.nd rfl (by first | exact Or.inl rfl | exact Or.inr rfl) (pe_op op_mulW (pv 2) (pe_fld (pv 0) (by rfl))))
      (pss_cons (ps_if (pt_cmpR op_lt (pv 4) (pv 5) (nomark _))
        (pss_one (ps_ret (pe_un un_neg pe_int)))
        pss_nil)
      (pss_cons (ps_if (pt_cmpR op_gt (pv 4) (pv 5) (nomark _))
        (pss_one (ps_ret pe_int))
        pss_nil)
      (pss_one (ps_ret pe_int))))))), ?_⟩
  obtain ⟨a, y, n, d, m, e, rfl, ⟨dx, ha⟩, hy, ⟨pd, sn, sd⟩, ⟨pe, sm, se⟩, hq⟩ := hs
  have ff := h.ff
  refine ⟨_, rfl, y, m, e, rfl, hy, fun q hqn => ⟨q, _, rfl, SqT.of upd_same, rfl, _, _, rfl, _, _, rfl, rfl, ?_⟩⟩
  have s1 := same_upd (H := H) (a := q) (o := .tup [.int m, .int e]) hqn
  have ha' := s1 _ _ ha
  have de : d * e ≠ 0 := Int.mul_ne_zero (by omega) (by omega)
  have bde : Bd 1000 (d * e) := Bd.mono (Bd.mul sd se) (by decide)
  refine ⟨_, rfl, _, _, _, _, _, rfl, ha', ff.cls, ff.no _ (by decide +kernel), rfl, _, rfl, _, _, rfl, rfl, Bd.mulW sn se, ?_⟩
  refine ⟨_, rfl, ⟨_, rfl, _, _, _, _, _, rfl, ha', ff.cls, ff.no _ (by decide +kernel), rfl, _, _, rfl, rfl, Bd.mulW sm sd, _, rfl, _, rfl, _, _, rfl, rfl, _, rfl, ite2 (fun c => ?_) (fun c => ?_)⟩⟩
  · have c1 : n * e < m * d := by simpa using c
    have := hq _ s1
    rw [if_pos c1] at this
    exact ⟨_, rfl, this⟩
  have c1 : ¬ n * e < m * d := by simpa using c
  refine ⟨_, rfl, _, rfl, _, _, rfl, rfl, _, rfl, ite2 (fun c => ?_) (fun c => ?_)⟩
  · have c2 : m * d < n * e := by simpa using c
    have := hq _ s1
    rw [if_neg c1, if_pos c2] at this
    exact this
  · have c2 : ¬ m * d < n * e := by simpa using c
    have := hq _ s1
    rw [if_neg c1, if_neg c2] at this
    exact this
end
end K0
namespace K0
open PySem PySem.Spec PyProof.Rows L2 He HX KF
section
variable {P : Program} {w : World} {K : PySem.W.Frag} {mg : Str → Option Value} {base : Heap}
def NN_Frac_floor : List PySem.Str := ["self"]
theorem sc_Frac_floor : FnScope NN_Frac_floor ["self"] (defScope (inClass (top 41) 13)) := ⟨rfl, rfl, rfl, by decide +kernel, rfl, by decide +kernel, by decide +kernel⟩
theorem ok_Frac_floor (h : HK K mg) : CalM P w K mg base 1 (fC K) "floor" ["self"] (sp_Frac_floor K) := by
  have F : FunD K "floor" "Frac.floor" (defArgs (inClass (top 41) 13)) (defBody (inClass (top 41) 13)) (defScope (inClass (top 41) 13)) [] [] (ma K (ga K "Frac") "floor") (fdA K (ma K (ga K "Frac") "floor")) := h.says.funD 14
  have G : FnOk P w K mg base (L2.CX P w) (0 + 1) (ma K (ga K "Frac") "floor") (fdA K (ma K (ga K "Frac") "floor")) ["self"] (sp_Frac_floor K) := okX F sc_Frac_floor (fun vs H Q E hs => by (repeat (obtain ⟨_, hs⟩ := hs)) <;> subst_vars <;> rfl) (fun cdv A outer s H vs Q E hr hs => ?_)
  · exact ⟨G, h.ff.cls, h.ff.meth _ (by decide +kernel), F.bindsN (fun _ _ _ _ _ _ us hl => match us, hl with | [_], _ => rfl)⟩
  refine ⟨_, (pss_one (ps_ret (pe_op op_fdivX (pe_fld (pv 0) (by rfl)) (pe_fld (pv 0) (by rfl))))), ?_⟩
  obtain ⟨a, n, d, rfl, ⟨dx, ha⟩, ⟨pd, sn, sd⟩, hq⟩ := hs
  have ff := h.ff
  exact ⟨_, rfl, _, _, _, _, _, rfl, ha, ff.cls, ff.no _ (by decide +kernel), rfl, ⟨_, rfl, _, _, _, _, _, rfl, ha, ff.cls, ff.no _ (by decide +kernel), rfl, _, _, rfl, rfl, Bd.divX sd (by omega), hq⟩⟩
end
end K0
namespace K0
open PySem PySem.Spec PyProof.Rows L2 He HX KF
section
variable {P : Program} {w : World} {K : PySem.W.Frag} {mg : Str → Option Value} {base : Heap}
def NN_Frac_of : List PySem.Str := ["number"]
theorem sc_Frac_of : FnScope NN_Frac_of ["number"] (defScope (inClass (top 41) 15)) := ⟨rfl, rfl, rfl, by decide +kernel, rfl, by decide +kernel, by decide +kernel⟩
theorem ok_Frac_of (h : HK K mg) (c_FR : CalF P w K mg base) : CalS P w K mg base 5 "Frac" "of" ["number"] (sp_Frac_of K) := by
  have F : FunD K "of" "Frac.of" (defArgs (inClass (top 41) 15)) (defBody (inClass (top 41) 15)) (defScope (inClass (top 41) 15)) [] [] (sa K (ga K "Frac") "of") (fdA K (sa K (ga K "Frac") "of")) := h.says.funD 16
  have G : FnOk P w K mg base (L2.CX P w) (4 + 1) (sa K (ga K "Frac") "of") (fdA K (sa K (ga K "Frac") "of")) ["number"] (sp_Frac_of K) := okX F sc_Frac_of (fun vs H Q E hs => by (repeat (obtain ⟨_, hs⟩ := hs)) <;> subst_vars <;> rfl) (fun cdv A outer s H vs Q E hr hs => ?_)
  · exact ⟨G, h.glo "Frac", h.ff.stat _ (by decide +kernel), F.bindsN (fun _ _ _ _ _ _ us hl => match us, hl with | [_], _ => rfl)⟩
  refine ⟨_, (pss_cons (ps_if (pt_val (pe_callB call_isi (by rfl) (h.free "isinstance") (by decide +kernel) (pa_cons (pv 0) (pa_cons (pe_glob (v := .ref (ga K "Frac")) (by rfl) (h.glo "Frac") rfl) pa_nil))))
        (pss_one (ps_ret (pv 0)))
        pss_nil)
      (pss_one (ps_ret (pe_frac1 c_FR hr passL (pa_cons (pv 0) pa_nil))))), ?_⟩
  obtain ⟨v, n, d, rfl, hv, hq⟩ := hs
  have ff := h.ff
  rcases hv with ⟨rfl, rfl⟩ | ⟨a, rfl, dx, ha⟩
  · refine ⟨_, rfl, _, _, _, _, _, rfl, .own _, .base (.int _), ff.kI, _, rfl, iteF ⟨_, rfl, mk_frac (n := n) (d := 1) (by unfold Bd; exact Nat.one_lt_two_pow (by decide)) (by decide) fun H' q' s2 _ f => ?_⟩⟩
    rw [(low_one n).1, (low_one n).2] at f
    exact hq H' q' s2 f
  · exact ⟨_, rfl, _, _, _, _, _, rfl, .own _, ff.tyX ha, ff.kF, _, rfl, iteT ⟨_, rfl, hq H a (Same.refl H) ⟨dx, ha⟩⟩⟩
end
end K0
namespace K0
open PySem PySem.Spec PyProof.Rows L2 He HX KF
section
variable {P : Program} {w : World} {K : PySem.W.Frag} {mg : Str → Option Value} {base : Heap}
def NN_Frac_over : List PySem.Str := ["self", "other", "num", "den"]
theorem sc_Frac_over : FnScope NN_Frac_over ["self", "other"] (defScope (inClass (top 41) 11)) := ⟨rfl, rfl, rfl, by decide +kernel, rfl, by decide +kernel, by decide +kernel⟩
theorem ok_Frac_over (h : HK K mg) (c_FR : CalF P w K mg base) (x_DivisionByZero : CalX P w K mg base 1 "DivisionByZero" ps_X_DivisionByZero (sp_X_DivisionByZero K)) (c_num_den : Cal P w K mg base 1 "num_den" ["number"] (sp_num_den K)) : CalM P w K mg base 5 (fC K) "over" ["self", "other"] (sp_Frac_over K) := by
  have F : FunD K "over" "Frac.over" (defArgs (inClass (top 41) 11)) (defBody (inClass (top 41) 11)) (defScope (inClass (top 41) 11)) [] [] (ma K (ga K "Frac") "over") (fdA K (ma K (ga K "Frac") "over")) := h.says.funD 12
  have G : FnOk P w K mg base (L2.CX P w) (4 + 1) (ma K (ga K "Frac") "over") (fdA K (ma K (ga K "Frac") "over")) ["self", "other"] (sp_Frac_over K) := okX F sc_Frac_over (fun vs H Q E hs => by (repeat (obtain ⟨_, hs⟩ := hs)) <;> subst_vars <;> rfl) (fun cdv A outer s H vs Q E hr hs => ?_)
  · exact ⟨G, h.ff.cls, h.ff.meth _ (by decide +kernel), F.bindsN (fun _ _ _ _ _ _ us hl => match us, hl with | [_, _], _ => rfl)⟩
  refine ⟨_, (pss_cons (ps_asg (pe_cal c_num_den hr passL (pa_cons (pv 1) pa_nil)) (pg_tup (by rfl) (pgs_cons (pg_name (i := 2) sc_Frac_over.nd rfl (by first | exact Or.inl rfl | exact Or.inr rfl)) (pgs_cons (pg_name (i := 3) sc_Frac_over.nd rfl (by first | exact Or.inl rfl | exact Or.inr rfl)) pgs_nil))))
      (pss_cons (ps_if (pt_cmpR op_eq (pv 2) pe_int (nomark _))
        (pss_one (ps_raise (by rfl) (takes_of rfl rfl rfl rfl) (pmk_cal0 x_DivisionByZero hr)))
        pss_nil)
      (pss_one (ps_ret (pe_frac2 c_FR hr (passes_call (takes_of rfl rfl rfl rfl) (fun _ _ _ _ h => h)) (pa_cons (pe_op op_mulW (pe_fld (pv 0) (by rfl)) (pv 3)) (pa_cons (pe_op op_mulW (pe_fld (pv 0) (by rfl)) (pv 2)) pa_nil))))))), ?_⟩
  obtain ⟨a, y, n, d, m, e, rfl, ⟨dx, ha⟩, hy, ⟨pd, sn, sd⟩, ⟨pe, sm, se⟩, hq, hz⟩ := hs
  have ff := h.ff
  refine ⟨_, rfl, y, m, e, rfl, hy, fun q hqn => ⟨q, _, rfl, SqT.of upd_same, rfl, _, _, rfl, _, _, rfl, rfl, ?_⟩⟩
  have s1 := same_upd (H := H) (a := q) (o := .tup [.int m, .int e]) hqn
  have ha' := s1 _ _ ha
  have de : d * e ≠ 0 := Int.mul_ne_zero (by omega) (by omega)
  have bde : Bd 1000 (d * e) := Bd.mono (Bd.mul sd se) (by decide)
  refine ⟨_, rfl, rfl, _, rfl, ite2 (fun c => ?_) (fun c => ?_)⟩
  · have z : m = 0 := by simpa using c
    refine ⟨Nat.zero_le _, fun a na => ⟨a, rfl, upd_same, rfl, none, upd_same, ?_⟩⟩
    rw [del_upd na]
    exact hz z _ s1
  have z : m ≠ 0 := fun z => c (by simp [z])
  have dm : d * m ≠ 0 := Int.mul_ne_zero (by omega) z
  have bdm : Bd 1000 (d * m) := Bd.mono (Bd.mul sd sm) (by decide)
  refine ⟨_, rfl, _, _, _, _, _, rfl, ha', ff.cls, ff.no _ (by decide +kernel), rfl, _, rfl, _, _, rfl, rfl, Bd.mulW sn se, ⟨_, rfl, _, _, _, _, _, rfl, ha', ff.cls, ff.no _ (by decide +kernel), rfl, _, rfl, _, _, rfl, rfl, Bd.mulW sd sm, mk_frac bdm dm fun H' q' s2 _ f => hq z H' q' (s1.trans s2) f⟩⟩
end
end K0
namespace K0
open PySem PySem.Spec PyProof.Rows L2 He HX KF
section
variable {P : Program} {w : World} {K : PySem.W.Frag} {mg : Str → Option Value} {base : Heap}
def NN_Frac_read : List PySem.Str := ["text", "num", "den", "end"]
theorem sc_Frac_read : FnScope NN_Frac_read ["text"] (defScope (inClass (top 41) 17)) := ⟨rfl, rfl, rfl, by decide +kernel, rfl, by decide +kernel, by decide +kernel⟩
theorem ok_Frac_read (h : HK K mg) (c_FR : CalF P w K mg base) (x_BadText : CalX P w K mg base 1 "BadText" ps_X_BadText (sp_X_BadText K)) (c_look_ratio : Cal P w K mg base 3 "look_ratio" ["num", "den", "end"] (sp_look_ratio K)) (c_ratio_at : Cal P w K mg base 5 "ratio_at" ["text", "at"] (sp_ratio_at K)) : CalS P w K mg base 6 "Frac" "read" ["text"] (sp_Frac_read K) := by
  have F : FunD K "read" "Frac.read" (defArgs (inClass (top 41) 17)) (defBody (inClass (top 41) 17)) (defScope (inClass (top 41) 17)) [] [] (sa K (ga K "Frac") "read") (fdA K (sa K (ga K "Frac") "read")) := h.says.funD 18
  have G : FnOk P w K mg base (L2.CX P w) (5 + 1) (sa K (ga K "Frac") "read") (fdA K (sa K (ga K "Frac") "read")) ["text"] (sp_Frac_read K) := okX F sc_Frac_read (fun vs H Q E hs => by (repeat (obtain ⟨_, hs⟩ := hs)) <;> subst_vars <;> rfl) (fun cdv A outer s H vs Q E hr hs => ?_)
  · exact ⟨G, h.glo "Frac", h.ff.stat _ (by decide +kernel), F.bindsN (fun _ _ _ _ _ _ us hl => match us, hl with | [_], _ => rfl)⟩
  refine ⟨_, (pss_cons (ps_asg (pe_cal c_ratio_at hr (passes_call (takes_of rfl rfl rfl rfl) (fun _ _ _ _ h => h)) (pa_cons (pv 0) (pa_cons pe_int pa_nil))) (pg_tup (by rfl) (pgs_cons (pg_name (i := 1) sc_Frac_read.nd rfl (by first | exact Or.inl rfl | exact Or.inr rfl)) (pgs_cons (pg_name (i := 2) sc_Frac_read.nd rfl (by first | exact Or.inl rfl | exact Or.inr rfl)) (pgs_cons (pg_name (i := 3) sc_Frac_read.nd rfl (by first | exact Or.inl rfl | exact Or.inr rfl)) pgs_nil)))))
      (pss_cons (ps_if (pt_cmpR op_lt (pv 3) (pe_callB call_len_str (by rfl) (h.free "len") (by decide +kernel) (pa_cons (pv 0) pa_nil)) (nomark _))
        (pss_one (ps_raise (by rfl) (takes_of rfl rfl rfl rfl) (pmk_cal x_BadText hr (pa_cons (pv 3) pa_nil))))
        pss_nil)
      (pss_cons (ps_expr (pe_cal c_look_ratio hr (passes_call (takes_of rfl rfl rfl rfl) (fun _ _ _ _ h => h)) (pa_cons (pv 1) (pa_cons (pv 2) (pa_cons (pv 3) pa_nil)))))
      (pss_cons (ps_if (pt_cmpR op_eq (pv 2) pe_int (nomark _))
        (pss_one (ps_ret (pe_fr1 c_FR hr (pa_cons (pv 1) pa_nil))))
        pss_nil)
      (pss_one (ps_ret (pe_fr2 c_FR hr (pa_cons (pv 1) (pa_cons (pv 2) pa_nil))))))))), ?_⟩
  obtain ⟨z, rfl, hz, h1, h2⟩ := hs
  have hl := chs_len z
  refine ⟨_, rfl, z, 0, rfl, hz, fun n d e hr H1 q s1 ht => ?_, fun s hr => ?_⟩
  rotate_left
  · refine h2 s ?_
    unfold rdF
    rw [hr]
  have dr := rAt_den hr
  have r0 : rdF (chs z) = if e < (chs z).length then .error e else if d = 1 ∨ (1 < d ∧ 1 < gi n d) then .error e else .ok (n, d) := by
    unfold rdF
    rw [hr]
    all_goals rfl
  refine ⟨q, _, rfl, ht, rfl, _, _, rfl, _, _, rfl, _, _, rfl, rfl, ?_⟩
  refine ⟨_, rfl, _, rfl, _, rfl, small_size (by omega), _, _, rfl, rfl, _, rfl, ite2 (fun c => ?_) (fun c => ?_)⟩
  · have c1 : e < (chs z).length := by
      have : (e : Int) < z.length := by simpa using c
      omega
    rw [if_pos c1] at r0
    have b := (h2 _ r0).same s1
    refine ⟨_, rfl, (show 1 ≤ 1000 by decide), fun a na => ⟨a, _, rfl, upd_same, fun H2 dx but ha nd ne hd => ⟨rfl, some dx, ha, ?_⟩⟩⟩
    refine b _ dx (fun b o q => ?_) (.inr ?_)
    · rw [del_ne (ne_of_none q na)]
      exact same_but na but b o q
    · rw [del_ne ne]
      exact hd
  have c1 : ¬ e < (chs z).length := by
    have : ¬ (e : Int) < z.length := by simpa using c
    omega
  rw [if_neg c1] at r0
  refine ⟨_, rfl, _, rfl, _, rfl, n, d, e, rfl, fun hn => ?_, fun hn => ?_⟩
  rotate_left
  · rw [if_pos hn] at r0
    exact (h2 _ r0).same s1
  rw [if_neg hn] at r0
  have fin := h1 n d r0
  refine ⟨_, rfl, rfl, _, rfl, ite2 (fun c => ?_) (fun c => ?_)⟩
  · have c2 : d = 0 := by simpa using c
    rw [if_pos c2] at fin
    refine ⟨_, rfl, n, rfl, fun H2 q2 s2 _ f2 => fin H2 q2 (s1.trans s2) ?_⟩
    rw [(low_one n).1, (low_one n).2]
    exact f2
  · have c2 : ¬ d = 0 := by simpa using c
    rw [if_neg c2] at fin
    exact ⟨_, rfl, _, rfl, n, d, rfl, c2, (bd_of (k := 60) dr.1 dr.2 (by decide)).mono (by decide), fun H2 q2 s2 _ f2 => fin H2 q2 (s1.trans s2) f2⟩
end
end K0
namespace K0
open PySem PySem.Spec PyProof.Rows L2 He HX KF
section
variable {P : Program} {w : World} {K : PySem.W.Frag} {mg : Str → Option Value} {base : Heap}
def NN_Frac_rest : List PySem.Str := ["self"]
theorem sc_Frac_rest : FnScope NN_Frac_rest ["self"] (defScope (inClass (top 41) 14)) := ⟨rfl, rfl, rfl, by decide +kernel, rfl, by decide +kernel, by decide +kernel⟩
theorem ok_Frac_rest (h : HK K mg) (c_FR : CalF P w K mg base) : CalM P w K mg base 5 (fC K) "rest" ["self"] (sp_Frac_rest K) := by
  have F : FunD K "rest" "Frac.rest" (defArgs (inClass (top 41) 14)) (defBody (inClass (top 41) 14)) (defScope (inClass (top 41) 14)) [] [] (ma K (ga K "Frac") "rest") (fdA K (ma K (ga K "Frac") "rest")) := h.says.funD 15
  have G : FnOk P w K mg base (L2.CX P w) (4 + 1) (ma K (ga K "Frac") "rest") (fdA K (ma K (ga K "Frac") "rest")) ["self"] (sp_Frac_rest K) := okX F sc_Frac_rest (fun vs H Q E hs => by (repeat (obtain ⟨_, hs⟩ := hs)) <;> subst_vars <;> rfl) (fun cdv A outer s H vs Q E hr hs => ?_)
  · exact ⟨G, h.ff.cls, h.ff.meth _ (by decide +kernel), F.bindsN (fun _ _ _ _ _ _ us hl => match us, hl with | [_], _ => rfl)⟩
  refine ⟨_, (pss_one (ps_ret (pe_frac2 c_FR hr passL (pa_cons (pe_op op_modN (pe_fld (pv 0) (by rfl)) (pe_fld (pv 0) (by rfl))) (pa_cons (pe_fld (pv 0) (by rfl)) pa_nil))))), ?_⟩
  obtain ⟨a, n, d, rfl, ⟨dx, ha⟩, ⟨pd, sn, sd⟩, hq⟩ := hs
  have ff := h.ff
  exact ⟨_, rfl, _, _, _, _, _, rfl, ha, ff.cls, ff.no _ (by decide +kernel), rfl, ⟨_, rfl, _, _, _, _, _, rfl, ha, ff.cls, ff.no _ (by decide +kernel), rfl, _, _, rfl, rfl, by omega, ⟨_, rfl, _, _, _, _, _, rfl, ha, ff.cls, ff.no _ (by decide +kernel), rfl, mk_frac (Bd.mono sd (by decide)) (by omega) fun H' q' s2 _ f => hq H' q' s2 f⟩⟩⟩
end
end K0
namespace K0
open PySem PySem.Spec PyProof.Rows L2 He HX KF
section
variable {P : Program} {w : World} {K : PySem.W.Frag} {mg : Str → Option Value} {base : Heap}
def NN_Frac_sum_of : List PySem.Str := ["numbers", "wholes", "den"]
theorem sc_Frac_sum_of : FnScope NN_Frac_sum_of ["numbers"] (defScope (inClass (top 41) 16)) := ⟨rfl, rfl, rfl, by decide +kernel, rfl, by decide +kernel, by decide +kernel⟩
theorem ok_Frac_sum_of (h : HK K mg) (c_FR : CalF P w K mg base) (c_to_wholes : Cal P w K mg base 2 "to_wholes" ["numbers"] (sp_to_wholes K)) : CalS P w K mg base 5 "Frac" "sum_of" ["numbers"] (sp_Frac_sum_of K) := by
  have F : FunD K "sum_of" "Frac.sum_of" (defArgs (inClass (top 41) 16)) (defBody (inClass (top 41) 16)) (defScope (inClass (top 41) 16)) [] [] (sa K (ga K "Frac") "sum_of") (fdA K (sa K (ga K "Frac") "sum_of")) := h.says.funD 17
  have G : FnOk P w K mg base (L2.CX P w) (4 + 1) (sa K (ga K "Frac") "sum_of") (fdA K (sa K (ga K "Frac") "sum_of")) ["numbers"] (sp_Frac_sum_of K) := okX F sc_Frac_sum_of (fun vs H Q E hs => by (repeat (obtain ⟨_, hs⟩ := hs)) <;> subst_vars <;> rfl) (fun cdv A outer s H vs Q E hr hs => ?_)
  · exact ⟨G, h.glo "Frac", h.ff.stat _ (by decide +kernel), F.bindsN (fun _ _ _ _ _ _ us hl => match us, hl with | [_], _ => rfl)⟩
  refine ⟨_, (pss_cons (ps_asg (pe_cal c_to_wholes hr passL (pa_cons (pv 0) pa_nil)) (pg_tup (by rfl) (pgs_cons (pg_name (i := 1) sc_Frac_sum_of.nd rfl (by first | exact Or.inl rfl | exact Or.inr rfl)) (pgs_cons (pg_name (i := 2) sc_Frac_sum_of.nd rfl (by first | exact Or.inl rfl | exact Or.inr rfl)) pgs_nil))))
      (pss_one (ps_ret (pe_frac2 c_FR hr passL (pa_cons (pe_callB (cr_sum rfl) (by rfl) (h.free "sum") (by decide +kernel) (pa_cons (pv 1) pa_nil)) (pa_cons (pv 2) pa_nil)))))), ?_⟩
  obtain ⟨l, xs, rs, rfl, hx, hn, hz, hq⟩ := hs
  have ff := h.ff
  refine ⟨_, rfl, l, xs, rs, rfl, hx, hn, hz, fun H1 q lw D ws s1 ht hw pD bD e => ⟨q, _, rfl, ht, rfl, _, _, rfl, _, _, rfl, rfl, ?_⟩⟩
  have pos : 0 < (sumF (0, 1) rs).2 := sumF_pos rs 0 1 (by decide) (fun r hr => by
    obtain ⟨i, hi⟩ := List.mem_iff_getElem?.mp hr
    have hl := hn.len
    obtain ⟨hi2, _⟩ := List.getElem?_eq_some_iff.mp hi
    obtain ⟨r', h1, _, h3, _⟩ := hn.get (i := i) (x := xs[i]'(by omega)) (by simp [show i < xs.length by omega])
    rw [hi] at h1
    cases h1
    exact h3)
  refine ⟨_, rfl, lw, ws, rfl, SqL.of hw, _, rfl, mk_frac (bD.mono (by decide)) (by omega) fun H2 q2 s2 _ f => ?_⟩
  obtain ⟨e1, e2⟩ := low_eq (a := ws.sum) (b := D) (a' := (sumF (0, 1) rs).1) (b' := (sumF (0, 1) rs).2) (by omega) (by omega) e
  rw [e1, e2] at f
  exact hq H2 q2 (s1.trans s2) f
end
end K0
namespace K0
open PySem PySem.Spec PyProof.Rows L2 He HX KF
section
variable {P : Program} {w : World} {K : PySem.W.Frag} {mg : Str → Option Value} {base : Heap}
def NN_Fracd_absd : List PySem.Str := ["self"]
theorem sc_Fracd_absd : FnScope NN_Fracd_absd ["self"] (defScope (inClass (top 41) 7)) := ⟨rfl, rfl, rfl, by decide +kernel, rfl, by decide +kernel, by decide +kernel⟩
theorem ok_Fracd_absd (h : HK K mg) (c_FR : CalF P w K mg base) : CalM P w K mg base 5 (fC K) "__abs__" ["self"] (sp_Fracd_absd K) := by
  have F : FunD K "__abs__" "Frac.__abs__" (defArgs (inClass (top 41) 7)) (defBody (inClass (top 41) 7)) (defScope (inClass (top 41) 7)) [] [] (ma K (ga K "Frac") "__abs__") (fdA K (ma K (ga K "Frac") "__abs__")) := h.says.funD 8
  have G : FnOk P w K mg base (L2.CX P w) (4 + 1) (ma K (ga K "Frac") "__abs__") (fdA K (ma K (ga K "Frac") "__abs__")) ["self"] (sp_Fracd_absd K) := okX F sc_Fracd_absd (fun vs H Q E hs => by (repeat (obtain ⟨_, hs⟩ := hs)) <;> subst_vars <;> rfl) (fun cdv A outer s H vs Q E hr hs => ?_)
  · exact ⟨G, h.ff.cls, h.ff.meth _ (by decide +kernel), F.bindsN (fun _ _ _ _ _ _ us hl => match us, hl with | [_], _ => rfl)⟩
  refine ⟨_, (pss_one (ps_ret (pe_frac2 c_FR hr passL (pa_cons (pe_callB call_abs (by rfl) (h.free "abs") (by decide +kernel) (pa_cons (pe_fld (pv 0) (by rfl)) pa_nil)) (pa_cons (pe_fld (pv 0) (by rfl)) pa_nil))))), ?_⟩
  obtain ⟨a, n, d, rfl, ⟨dx, ha⟩, ⟨pd, sn, sd⟩, hq⟩ := hs
  have ff := h.ff
  exact ⟨_, rfl, _, _, _, _, _, rfl, ha, ff.cls, ff.no _ (by decide +kernel), rfl, _, rfl, ⟨_, rfl, _, _, _, _, _, rfl, ha, ff.cls, ff.no _ (by decide +kernel), rfl, mk_frac (Bd.mono sd (by decide)) (by omega) fun H' q' s2 _ f => hq H' q' s2 f⟩⟩
end
end K0
namespace K0
open PySem PySem.Spec PyProof.Rows L2 He HX KF
section
variable {P : Program} {w : World} {K : PySem.W.Frag} {mg : Str → Option Value} {base : Heap}
def NN_Fracd_addd : List PySem.Str := ["self", "other", "num", "den"]
theorem sc_Fracd_addd : FnScope NN_Fracd_addd ["self", "other"] (defScope (inClass (top 41) 1)) := ⟨rfl, rfl, rfl, by decide +kernel, rfl, by decide +kernel, by decide +kernel⟩
theorem ok_Fracd_addd (h : HK K mg) (c_FR : CalF P w K mg base) (c_num_den : Cal P w K mg base 1 "num_den" ["number"] (sp_num_den K)) : CalM P w K mg base 5 (fC K) "__add__" ["self", "other"] (sp_Fracd_addd K) := by
  have F : FunD K "__add__" "Frac.__add__" (defArgs (inClass (top 41) 1)) (defBody (inClass (top 41) 1)) (defScope (inClass (top 41) 1)) [] [] (ma K (ga K "Frac") "__add__") (fdA K (ma K (ga K "Frac") "__add__")) := h.says.funD 2
  have G : FnOk P w K mg base (L2.CX P w) (4 + 1) (ma K (ga K "Frac") "__add__") (fdA K (ma K (ga K "Frac") "__add__")) ["self", "other"] (sp_Fracd_addd K) := okX F sc_Fracd_addd (fun vs H Q E hs => by (repeat (obtain ⟨_, hs⟩ := hs)) <;> subst_vars <;> rfl) (fun cdv A outer s H vs Q E hr hs => ?_)
  · exact ⟨G, h.ff.cls, h.ff.meth _ (by decide +kernel), F.bindsN (fun _ _ _ _ _ _ us hl => match us, hl with | [_, _], _ => rfl)⟩
  refine ⟨_, (pss_cons (ps_asg (pe_cal c_num_den hr passL (pa_cons (pv 1) pa_nil)) (pg_tup (by rfl) (pgs_cons (pg_name (i := 2) sc_Fracd_addd.nd rfl (by first | exact Or.inl rfl | exact Or.inr rfl)) (pgs_cons (pg_name (i := 3) sc_Fracd_addd.nd rfl (by first | exact Or.inl rfl | exact Or.inr rfl)) pgs_nil))))
      (pss_one (ps_ret (pe_frac2 c_FR hr passL (pa_cons (pe_op op_add (pe_op op_mulW (pe_fld (pv 0) (by rfl)) (pv 3)) (pe_op op_mulW (pv 2) (pe_fld (pv 0) (by rfl)))) (pa_cons (pe_op op_mulW (pe_fld (pv 0) (by rfl)) (pv 3)) pa_nil)))))), ?_⟩
  obtain ⟨a, y, n, d, m, e, rfl, ⟨dx, ha⟩, hy, ⟨pd, sn, sd⟩, ⟨pe, sm, se⟩, hq⟩ := hs
  have ff := h.ff
  refine ⟨_, rfl, y, m, e, rfl, hy, fun q hqn => ⟨q, _, rfl, SqT.of upd_same, rfl, _, _, rfl, _, _, rfl, rfl, ?_⟩⟩
  have s1 := same_upd (H := H) (a := q) (o := .tup [.int m, .int e]) hqn
  have ha' := s1 _ _ ha
  have de : d * e ≠ 0 := Int.mul_ne_zero (by omega) (by omega)
  have bde : Bd 1000 (d * e) := Bd.mono (Bd.mul sd se) (by decide)
  refine ⟨_, rfl, _, _, _, _, _, rfl, ha', ff.cls, ff.no _ (by decide +kernel), rfl, _, rfl, _, _, rfl, rfl, Bd.mulW sn se, _, rfl, ⟨_, rfl, _, _, _, _, _, rfl, ha', ff.cls, ff.no _ (by decide +kernel), rfl, _, _, rfl, rfl, Bd.mulW sm sd, _, _, rfl, rfl, ⟨_, rfl, _, _, _, _, _, rfl, ha', ff.cls, ff.no _ (by decide +kernel), rfl, _, rfl, _, _, rfl, rfl, Bd.mulW sd se, mk_frac bde de fun H' q' s2 _ f => hq H' q' (s1.trans s2) f⟩⟩⟩
end
end K0
namespace K0
open PySem PySem.Spec PyProof.Rows L2 He HX KF
section
variable {P : Program} {w : World} {K : PySem.W.Frag} {mg : Str → Option Value} {base : Heap}
def NN_Fracd_boold : List PySem.Str := ["self"]
theorem sc_Fracd_boold : FnScope NN_Fracd_boold ["self"] (defScope (inClass (top 41) 8)) := ⟨rfl, rfl, rfl, by decide +kernel, rfl, by decide +kernel, by decide +kernel⟩
theorem ok_Fracd_boold (h : HK K mg) : CalM P w K mg base 1 (fC K) "__bool__" ["self"] (sp_Fracd_boold K) := by
  have F : FunD K "__bool__" "Frac.__bool__" (defArgs (inClass (top 41) 8)) (defBody (inClass (top 41) 8)) (defScope (inClass (top 41) 8)) [] [] (ma K (ga K "Frac") "__bool__") (fdA K (ma K (ga K "Frac") "__bool__")) := h.says.funD 9
  have G : FnOk P w K mg base (L2.CX P w) (0 + 1) (ma K (ga K "Frac") "__bool__") (fdA K (ma K (ga K "Frac") "__bool__")) ["self"] (sp_Fracd_boold K) := okX F sc_Fracd_boold (fun vs H Q E hs => by (repeat (obtain ⟨_, hs⟩ := hs)) <;> subst_vars <;> rfl) (fun cdv A outer s H vs Q E hr hs => ?_)
  · exact ⟨G, h.ff.cls, h.ff.meth _ (by decide +kernel), F.bindsN (fun _ _ _ _ _ _ us hl => match us, hl with | [_], _ => rfl)⟩
  refine ⟨_, (pss_one (ps_ret (pe_callTy call_bool1 (by rfl) (h.free "bool") (by decide +kernel) (pa_cons (pe_fld (pv 0) (by rfl)) pa_nil)))), ?_⟩
  obtain ⟨a, n, d, rfl, ⟨dx, ha⟩, hq⟩ := hs
  have ff := h.ff
  exact ⟨_, rfl, _, _, _, _, _, rfl, ha, ff.cls, ff.no _ (by decide +kernel), rfl, .inl ⟨_, rfl, hq⟩⟩
end
end K0
namespace K0
open PySem PySem.Spec PyProof.Rows L2 He HX KF
section
variable {P : Program} {w : World} {K : PySem.W.Frag} {mg : Str → Option Value} {base : Heap}
def NN_Fracd_eqd : List PySem.Str := ["self", "other"]
theorem sc_Fracd_eqd : FnScope NN_Fracd_eqd ["self", "other"] (defScope (inClass (top 41) 9)) := ⟨rfl, rfl, rfl, by decide +kernel, rfl, by decide +kernel, by decide +kernel⟩
theorem ok_Fracd_eqd (h : HK K mg) : CalM P w K mg base 1 (fC K) "__eq__" ["self", "other"] (sp_Fracd_eqd K) := by
  have F : FunD K "__eq__" "Frac.__eq__" (defArgs (inClass (top 41) 9)) (defBody (inClass (top 41) 9)) (defScope (inClass (top 41) 9)) [] [] (ma K (ga K "Frac") "__eq__") (fdA K (ma K (ga K "Frac") "__eq__")) := h.says.funD 10
  have G : FnOk P w K mg base (L2.CX P w) (0 + 1) (ma K (ga K "Frac") "__eq__") (fdA K (ma K (ga K "Frac") "__eq__")) ["self", "other"] (sp_Fracd_eqd K) := okX F sc_Fracd_eqd (fun vs H Q E hs => by (repeat (obtain ⟨_, hs⟩ := hs)) <;> subst_vars <;> rfl) (fun cdv A outer s H vs Q E hr hs => ?_)
  · exact ⟨G, h.ff.cls, h.ff.meth _ (by decide +kernel), F.bindsN (fun _ _ _ _ _ _ us hl => match us, hl with | [_, _], _ => rfl)⟩
  refine ⟨_, (pss_one (ps_ret (pe_and (pe_callB call_isi (by rfl) (h.free "isinstance") (by decide +kernel) (pa_cons (pv 1) (pa_cons (pe_glob (v := .ref (ga K "Frac")) (by rfl) (h.glo "Frac") rfl) pa_nil))) (pe_and (pe_cmpR op_eq (pe_fld (pv 0) (by rfl)) (pe_fld (pv 1) (by rfl)) (nomark _)) (pe_one (pe_cmpR op_eq (pe_fld (pv 0) (by rfl)) (pe_fld (pv 1) (by rfl)) (nomark _))))))), ?_⟩
  obtain ⟨a, n, d, y, b, rfl, ⟨dx, ha⟩, hb, hq⟩ := hs
  have ff := h.ff
  rcases hb with ⟨i, rfl, rfl⟩ | ⟨z, rfl, rfl⟩ | ⟨a', m, e, rfl, ⟨dy, ha'⟩, rfl⟩
  · exact ⟨_, rfl, _, _, _, _, _, rfl, .own _, .base (.int _), ff.kI, _, rfl, iteF hq⟩
  · exact ⟨_, rfl, _, _, _, _, _, rfl, .own _, .base (.str _), ff.kS, _, rfl, iteF hq⟩
  · refine ⟨_, rfl, _, _, _, _, _, rfl, .own _, ff.tyX ha', ff.kF, _, rfl, iteT ?_⟩
    refine ⟨_, rfl, _, _, _, _, _, rfl, ha, ff.cls, ff.no _ (by decide +kernel), rfl, ⟨_, rfl, _, _, _, _, _, rfl, ha', ff.cls, ff.no _ (by decide +kernel), rfl, rfl, _, rfl, ite2 (fun c => ?_) (fun c => ?_)⟩⟩
    · have c1 : n = m := by simpa using c
      refine ⟨_, rfl, _, _, _, _, _, rfl, ha, ff.cls, ff.no _ (by decide +kernel), rfl, ⟨_, rfl, _, _, _, _, _, rfl, ha', ff.cls, ff.no _ (by decide +kernel), rfl, rfl, ?_⟩⟩
      rw [show decide (V.int d = V.int e) = decide (n = m ∧ d = e) by simp [c1]]
      exact hq
    · have c1 : ¬ n = m := by simpa using c
      rw [show decide (n = m ∧ d = e) = false by simp [c1]] at hq
      exact hq
end
end K0
namespace K0
open PySem PySem.Spec PyProof.Rows L2 He HX KF
section
variable {P : Program} {w : World} {K : PySem.W.Frag} {mg : Str → Option Value} {base : Heap}
def NN_Fracd_floordivd : List PySem.Str := ["self", "other", "num", "den"]
theorem sc_Fracd_floordivd : FnScope NN_Fracd_floordivd ["self", "other"] (defScope (inClass (top 41) 4)) := ⟨rfl, rfl, rfl, by decide +kernel, rfl, by decide +kernel, by decide +kernel⟩
theorem ok_Fracd_floordivd (h : HK K mg) (x_DivisionByZero : CalX P w K mg base 1 "DivisionByZero" ps_X_DivisionByZero (sp_X_DivisionByZero K)) (c_num_den : Cal P w K mg base 1 "num_den" ["number"] (sp_num_den K)) : CalM P w K mg base 3 (fC K) "__floordiv__" ["self", "other"] (sp_Fracd_floordivd K) := by
  have F : FunD K "__floordiv__" "Frac.__floordiv__" (defArgs (inClass (top 41) 4)) (defBody (inClass (top 41) 4)) (defScope (inClass (top 41) 4)) [] [] (ma K (ga K "Frac") "__floordiv__") (fdA K (ma K (ga K "Frac") "__floordiv__")) := h.says.funD 5
  have G : FnOk P w K mg base (L2.CX P w) (2 + 1) (ma K (ga K "Frac") "__floordiv__") (fdA K (ma K (ga K "Frac") "__floordiv__")) ["self", "other"] (sp_Fracd_floordivd K) := okX F sc_Fracd_floordivd (fun vs H Q E hs => by (repeat (obtain ⟨_, hs⟩ := hs)) <;> subst_vars <;> rfl) (fun cdv A outer s H vs Q E hr hs => ?_)
  · exact ⟨G, h.ff.cls, h.ff.meth _ (by decide +kernel), F.bindsN (fun _ _ _ _ _ _ us hl => match us, hl with | [_, _], _ => rfl)⟩
  refine ⟨_, (pss_cons (ps_asg (pe_cal c_num_den hr passL (pa_cons (pv 1) pa_nil)) (pg_tup (by rfl) (pgs_cons (pg_name (i := 2) sc_Fracd_floordivd.nd rfl (by first | exact Or.inl rfl | exact Or.inr rfl)) (pgs_cons (pg_name (i := 3) sc_Fracd_floordivd.nd rfl (by first | exact Or.inl rfl | exact Or.inr rfl)) pgs_nil))))
      (pss_cons (ps_if (pt_cmpR op_eq (pv 2) pe_int (nomark _))
        (pss_one (ps_raise (by rfl) (takes_of rfl rfl rfl rfl) (pmk_cal0 x_DivisionByZero hr)))
        pss_nil)
      (pss_one (ps_ret (pe_op op_fdivX (pe_op op_mulW (pe_fld (pv 0) (by rfl)) (pv 3)) (pe_op op_mulW (pe_fld (pv 0) (by rfl)) (pv 2))))))), ?_⟩
  obtain ⟨a, y, n, d, m, e, rfl, ⟨dx, ha⟩, hy, ⟨pd, sn, sd⟩, ⟨pe, sm, se⟩, hq, hz⟩ := hs
  have ff := h.ff
  refine ⟨_, rfl, y, m, e, rfl, hy, fun q hqn => ⟨q, _, rfl, SqT.of upd_same, rfl, _, _, rfl, _, _, rfl, rfl, ?_⟩⟩
  have s1 := same_upd (H := H) (a := q) (o := .tup [.int m, .int e]) hqn
  have ha' := s1 _ _ ha
  have de : d * e ≠ 0 := Int.mul_ne_zero (by omega) (by omega)
  have bde : Bd 1000 (d * e) := Bd.mono (Bd.mul sd se) (by decide)
  refine ⟨_, rfl, rfl, _, rfl, ite2 (fun c => ?_) (fun c => ?_)⟩
  · have z : m = 0 := by simpa using c
    refine ⟨Nat.zero_le _, fun a na => ⟨a, rfl, upd_same, rfl, none, upd_same, ?_⟩⟩
    rw [del_upd na]
    exact hz z _ s1
  have z : m ≠ 0 := fun z => c (by simp [z])
  have dm : d * m ≠ 0 := Int.mul_ne_zero (by omega) z
  have bdm : Bd 1000 (d * m) := Bd.mono (Bd.mul sd sm) (by decide)
  refine ⟨_, rfl, _, _, _, _, _, rfl, ha', ff.cls, ff.no _ (by decide +kernel), rfl, _, rfl, _, _, rfl, rfl, Bd.mulW sn se, ⟨_, rfl, _, _, _, _, _, rfl, ha', ff.cls, ff.no _ (by decide +kernel), rfl, _, rfl, _, _, rfl, rfl, Bd.mulW sd sm, _, _, rfl, rfl, bdm.divX dm, hq z _ s1⟩⟩
end
end K0
namespace K0
open PySem PySem.Spec PyProof.Rows L2 He HX KF
section
variable {P : Program} {w : World} {K : PySem.W.Frag} {mg : Str → Option Value} {base : Heap}
def NN_Fracd_initd : List PySem.Str := ["self", "num", "den", "common"]
theorem sc_Fracd_initd : FnScope NN_Fracd_initd ["self", "num", "den"] (defScope (inClass (top 41) 0)) := ⟨rfl, rfl, rfl, by decide +kernel, rfl, by decide +kernel, by decide +kernel⟩
theorem ok_Fracd_initd (h : HK K mg) (x_DivisionByZero : CalX P w K mg base 1 "DivisionByZero" ps_X_DivisionByZero (sp_X_DivisionByZero K)) (c_common_divisor : Cal P w K mg base 1 "common_divisor" ["first", "second"] (sp_common_divisor K)) : FnOk P w K mg base (L2.CX P w) 3 (ma K (fC K) "__init__") (fdA K (ma K (fC K) "__init__")) ["self", "num", "den"] (sp_init K) := by
  have F : FunD K "__init__" "Frac.__init__" (defArgs (inClass (top 41) 0)) (defBody (inClass (top 41) 0)) (defScope (inClass (top 41) 0)) [.int 0, .int 1] [] (ma K (ga K "Frac") "__init__") (fdA K (ma K (ga K "Frac") "__init__")) := h.says.funD 1
  have G : FnOk P w K mg base (L2.CX P w) (2 + 1) (ma K (ga K "Frac") "__init__") (fdA K (ma K (ga K "Frac") "__init__")) ["self", "num", "den"] (sp_init K) := okX F sc_Fracd_initd (fun vs H Q E hs => by (repeat (obtain ⟨_, hs⟩ := hs)) <;> subst_vars <;> rfl) (fun cdv A outer s H vs Q E hr hs => ?_)
  · exact G
  refine ⟨_, (pss_cons (ps_if (pt_cmpR op_eq (pv 2) pe_int (nomark _))
        (pss_one (ps_raise (by rfl) (takes_of rfl rfl rfl rfl) (pmk_cal0 x_DivisionByZero hr)))
        pss_nil)
      (pss_cons (ps_set (i := 3) sc_Fracd_initd.nd rfl (by first | exact Or.inl rfl | exact Or.inr rfl) (pe_cal c_common_divisor hr passL (pa_cons (pv 1) (pa_cons (pv 2) pa_nil))))
      (pss_cons (ps_if (pt_cmpR op_lt (pv 2) pe_int (nomark _))
        (pss_one (ps_set (i := 3) sc_Fracd_initd.nd rfl (by first | exact Or.inl rfl | exact Or.inr rfl) (pe_un un_neg (pv 3))))
        pss_nil)
      (pss_cons (ps_fld (pv 0) (pe_op op_fdivX (pv 1) (pv 3)) (by rfl))
      (pss_one (ps_fld (pv 0) (pe_op op_fdivX (pv 2) (pv 3)) (by rfl))))))), ?_⟩
  obtain ⟨x, dx, n, d, rfl, hx, hb, h1, h2⟩ := hs
  have ff := h.ff
  refine ⟨_, rfl, rfl, _, rfl, ite2 (fun c => ?_) (fun c => ?_)⟩
  · have e : d = 0 := by simpa using c
    refine ⟨Nat.zero_le _, fun a na => ⟨a, rfl, upd_same, rfl, none, upd_same, ?_⟩⟩
    rw [del_upd na]
    exact h2 e
  have e : d ≠ 0 := fun z => c (by simp [z])
  have g := gs_ne (a := n) e
  have bg := Bd.gs (a := n) hb e
  refine ⟨_, rfl, _, rfl, n, d, rfl, _, rfl, _, _, rfl, rfl, _, rfl, ite2 (fun c2 => ?_) (fun c2 => ?_)⟩
  · have c3 : d < 0 := by simpa using c2
    refine ⟨_, rfl, _, rfl, ?_⟩
    dsimp only
    rw [show -gi n d = gs n d by unfold gs; rw [if_pos c3]]
    refine ⟨_, rfl, _, rfl, _, _, rfl, rfl, bg.divX g, _, rfl, x, fC K, dx, _, rfl, hx, ff.cls, ff.no _ (by decide +kernel), by decide, ?_⟩
    refine ⟨_, rfl, _, rfl, _, _, rfl, rfl, bg.divX g, _, rfl, x, fC K, dx, _, rfl, upd_same, ff.cls, ff.no _ (by decide +kernel), (show (1 : Nat) < 1000 by decide), ?_⟩
    show Q .non (upd (upd H x (.ins (fC K) dx (putF "num" (.int (n.fdiv (gs n d))) []))) x (.ins (fC K) dx (putF "den" (.int (d.fdiv (gs n d))) (putF "num" (.int (n.fdiv (gs n d))) []))))
    rw [upd_upd, putF2, fdiv_gsN, fdiv_gsD]
    exact h1 e
  · have c3 : ¬ d < 0 := by simpa using c2
    dsimp only [tNext]
    rw [show gi n d = gs n d by unfold gs; rw [if_neg c3]]
    refine ⟨_, rfl, _, rfl, _, _, rfl, rfl, bg.divX g, _, rfl, x, fC K, dx, _, rfl, hx, ff.cls, ff.no _ (by decide +kernel), by decide, ?_⟩
    refine ⟨_, rfl, _, rfl, _, _, rfl, rfl, bg.divX g, _, rfl, x, fC K, dx, _, rfl, upd_same, ff.cls, ff.no _ (by decide +kernel), (show (1 : Nat) < 1000 by decide), ?_⟩
    show Q .non (upd (upd H x (.ins (fC K) dx (putF "num" (.int (n.fdiv (gs n d))) []))) x (.ins (fC K) dx (putF "den" (.int (d.fdiv (gs n d))) (putF "num" (.int (n.fdiv (gs n d))) []))))
    rw [upd_upd, putF2, fdiv_gsN, fdiv_gsD]
    exact h1 e
end
end K0
namespace K0
open PySem PySem.Spec PyProof.Rows L2 He HX KF
section
variable {P : Program} {w : World} {K : PySem.W.Frag} {mg : Str → Option Value} {base : Heap}
def NN_Fracd_modd : List PySem.Str := ["self", "other", "num", "den", "whole"]
theorem sc_Fracd_modd : FnScope NN_Fracd_modd ["self", "other"] (defScope (inClass (top 41) 5)) := ⟨rfl, rfl, rfl, by decide +kernel, rfl, by decide +kernel, by decide +kernel⟩
theorem ok_Fracd_modd (h : HK K mg) (c_FR : CalF P w K mg base) (x_DivisionByZero : CalX P w K mg base 1 "DivisionByZero" ps_X_DivisionByZero (sp_X_DivisionByZero K)) (c_num_den : Cal P w K mg base 1 "num_den" ["number"] (sp_num_den K)) : CalM P w K mg base 5 (fC K) "__mod__" ["self", "other"] (sp_Fracd_modd K) := by
  have F : FunD K "__mod__" "Frac.__mod__" (defArgs (inClass (top 41) 5)) (defBody (inClass (top 41) 5)) (defScope (inClass (top 41) 5)) [] [] (ma K (ga K "Frac") "__mod__") (fdA K (ma K (ga K "Frac") "__mod__")) := h.says.funD 6
  have G : FnOk P w K mg base (L2.CX P w) (4 + 1) (ma K (ga K "Frac") "__mod__") (fdA K (ma K (ga K "Frac") "__mod__")) ["self", "other"] (sp_Fracd_modd K) := okX F sc_Fracd_modd (fun vs H Q E hs => by (repeat (obtain ⟨_, hs⟩ := hs)) <;> subst_vars <;> rfl) (fun cdv A outer s H vs Q E hr hs => ?_)
  · exact ⟨G, h.ff.cls, h.ff.meth _ (by decide +kernel), F.bindsN (fun _ _ _ _ _ _ us hl => match us, hl with | [_, _], _ => rfl)⟩
  refine ⟨_, (pss_cons (ps_asg (pe_cal c_num_den hr passL (pa_cons (pv 1) pa_nil)) (pg_tup (by rfl) (pgs_cons (pg_name (i := 2) sc_Fracd_modd.nd rfl (by first | exact Or.inl rfl | exact Or.inr rfl)) (pgs_cons (pg_name (i := 3) sc_Fracd_modd.nd rfl (by first | exact Or.inl rfl | exact Or.inr rfl)) pgs_nil))))
      (pss_cons (ps_if (pt_cmpR op_eq (pv 2) pe_int (nomark _))
        (pss_one (ps_raise (by rfl) (takes_of rfl rfl rfl rfl) (pmk_cal0 x_DivisionByZero hr)))
        pss_nil)
      (pss_cons (ps_set (i := 4) sc_Fracd_modd.nd rfl (by first | exact Or.inl rfl | exact Or.inr rfl) (pe_op op_fdivX (pe_op op_mulW (pe_fld (pv 0) (by rfl)) (pv 3)) (pe_op op_mulW (pe_fld (pv 0) (by rfl)) (pv 2))))
      (pss_one (ps_ret (pe_frac2 c_FR hr (passes_call (takes_of rfl rfl rfl rfl) (fun _ _ _ _ h => h)) (pa_cons (pe_op op_sub (pe_op op_mulW (pe_fld (pv 0) (by rfl)) (pv 3)) (pe_op op_mulW (pe_op op_mulW (pv 2) (pe_fld (pv 0) (by rfl))) (pv 4))) (pa_cons (pe_op op_mulW (pe_fld (pv 0) (by rfl)) (pv 3)) pa_nil)))))))), ?_⟩
  obtain ⟨a, y, n, d, m, e, rfl, ⟨dx, ha⟩, hy, ⟨pd, sn, sd⟩, ⟨pe, sm, se⟩, hq, hz⟩ := hs
  have ff := h.ff
  refine ⟨_, rfl, y, m, e, rfl, hy, fun q hqn => ⟨q, _, rfl, SqT.of upd_same, rfl, _, _, rfl, _, _, rfl, rfl, ?_⟩⟩
  have s1 := same_upd (H := H) (a := q) (o := .tup [.int m, .int e]) hqn
  have ha' := s1 _ _ ha
  have de : d * e ≠ 0 := Int.mul_ne_zero (by omega) (by omega)
  have bde : Bd 1000 (d * e) := Bd.mono (Bd.mul sd se) (by decide)
  refine ⟨_, rfl, rfl, _, rfl, ite2 (fun c => ?_) (fun c => ?_)⟩
  · have z : m = 0 := by simpa using c
    refine ⟨Nat.zero_le _, fun a na => ⟨a, rfl, upd_same, rfl, none, upd_same, ?_⟩⟩
    rw [del_upd na]
    exact hz z _ s1
  have z : m ≠ 0 := fun z => c (by simp [z])
  have dm : d * m ≠ 0 := Int.mul_ne_zero (by omega) z
  have bdm : Bd 1000 (d * m) := Bd.mono (Bd.mul sd sm) (by decide)
  refine ⟨_, rfl, _, _, _, _, _, rfl, ha', ff.cls, ff.no _ (by decide +kernel), rfl, _, rfl, _, _, rfl, rfl, Bd.mulW sn se, ⟨_, rfl, _, _, _, _, _, rfl, ha', ff.cls, ff.no _ (by decide +kernel), rfl, _, rfl, _, _, rfl, rfl, Bd.mulW sd sm, _, _, rfl, rfl, bdm.divX dm, ?_⟩⟩
  have bw : Bd 800 ((n * e).fdiv (d * m)) := (Bd.mul sn se).le (natAbs_fdiv_le _ dm)
  refine ⟨_, rfl, _, _, _, _, _, rfl, ha', ff.cls, ff.no _ (by decide +kernel), rfl, _, rfl, _, _, rfl, rfl, Bd.mulW sn se, _, rfl, ⟨_, rfl, _, _, _, _, _, rfl, ha', ff.cls, ff.no _ (by decide +kernel), rfl, _, _, rfl, rfl, Bd.mulW sm sd, _, rfl, _, _, rfl, rfl, Bd.mulW (Bd.mul sm sd) bw, _, _, rfl, rfl, ⟨_, rfl, _, _, _, _, _, rfl, ha', ff.cls, ff.no _ (by decide +kernel), rfl, _, rfl, _, _, rfl, rfl, Bd.mulW sd se, mk_frac bde de fun H' q' s2 _ f => hq z H' q' (s1.trans s2) f⟩⟩⟩
end
end K0
namespace K0
open PySem PySem.Spec PyProof.Rows L2 He HX KF
section
variable {P : Program} {w : World} {K : PySem.W.Frag} {mg : Str → Option Value} {base : Heap}
def NN_Fracd_muld : List PySem.Str := ["self", "other", "num", "den"]
theorem sc_Fracd_muld : FnScope NN_Fracd_muld ["self", "other"] (defScope (inClass (top 41) 3)) := ⟨rfl, rfl, rfl, by decide +kernel, rfl, by decide +kernel, by decide +kernel⟩
theorem ok_Fracd_muld (h : HK K mg) (c_FR : CalF P w K mg base) (c_num_den : Cal P w K mg base 1 "num_den" ["number"] (sp_num_den K)) : CalM P w K mg base 5 (fC K) "__mul__" ["self", "other"] (sp_Fracd_muld K) := by
  have F : FunD K "__mul__" "Frac.__mul__" (defArgs (inClass (top 41) 3)) (defBody (inClass (top 41) 3)) (defScope (inClass (top 41) 3)) [] [] (ma K (ga K "Frac") "__mul__") (fdA K (ma K (ga K "Frac") "__mul__")) := h.says.funD 4
  have G : FnOk P w K mg base (L2.CX P w) (4 + 1) (ma K (ga K "Frac") "__mul__") (fdA K (ma K (ga K "Frac") "__mul__")) ["self", "other"] (sp_Fracd_muld K) := okX F sc_Fracd_muld (fun vs H Q E hs => by (repeat (obtain ⟨_, hs⟩ := hs)) <;> subst_vars <;> rfl) (fun cdv A outer s H vs Q E hr hs => ?_)
  · exact ⟨G, h.ff.cls, h.ff.meth _ (by decide +kernel), F.bindsN (fun _ _ _ _ _ _ us hl => match us, hl with | [_, _], _ => rfl)⟩
  refine ⟨_, (pss_cons (ps_asg (pe_cal c_num_den hr passL (pa_cons (pv 1) pa_nil)) (pg_tup (by rfl) (pgs_cons (pg_name (i := 2) sc_Fracd_muld.nd rfl (by first | exact Or.inl rfl | exact Or.inr rfl)) (pgs_cons (pg_name (i := 3) sc_Fracd_muld.nd rfl (by first | exact Or.inl rfl | exact Or.inr rfl)) pgs_nil))))
      (pss_one (ps_ret (pe_frac2 c_FR hr passL (pa_cons (pe_op op_mulW (pe_fld (pv 0) (by rfl)) (pv 2)) (pa_cons (pe_op op_mulW (pe_fld (pv 0) (by rfl)) (pv 3)) pa_nil)))))), ?_⟩
  obtain ⟨a, y, n, d, m, e, rfl, ⟨dx, ha⟩, hy, ⟨pd, sn, sd⟩, ⟨pe, sm, se⟩, hq⟩ := hs
  have ff := h.ff
  refine ⟨_, rfl, y, m, e, rfl, hy, fun q hqn => ⟨q, _, rfl, SqT.of upd_same, rfl, _, _, rfl, _, _, rfl, rfl, ?_⟩⟩
  have s1 := same_upd (H := H) (a := q) (o := .tup [.int m, .int e]) hqn
  have ha' := s1 _ _ ha
  have de : d * e ≠ 0 := Int.mul_ne_zero (by omega) (by omega)
  have bde : Bd 1000 (d * e) := Bd.mono (Bd.mul sd se) (by decide)
  refine ⟨_, rfl, _, _, _, _, _, rfl, ha', ff.cls, ff.no _ (by decide +kernel), rfl, _, rfl, _, _, rfl, rfl, Bd.mulW sn sm, ⟨_, rfl, _, _, _, _, _, rfl, ha', ff.cls, ff.no _ (by decide +kernel), rfl, _, rfl, _, _, rfl, rfl, Bd.mulW sd se, mk_frac bde de fun H' q' s2 _ f => hq H' q' (s1.trans s2) f⟩⟩
end
end K0
namespace K0
open PySem PySem.Spec PyProof.Rows L2 He HX KF
section
variable {P : Program} {w : World} {K : PySem.W.Frag} {mg : Str → Option Value} {base : Heap}
def NN_Fracd_negd : List PySem.Str := ["self"]
theorem sc_Fracd_negd : FnScope NN_Fracd_negd ["self"] (defScope (inClass (top 41) 6)) := ⟨rfl, rfl, rfl, by decide +kernel, rfl, by decide +kernel, by decide +kernel⟩
theorem ok_Fracd_negd (h : HK K mg) (c_FR : CalF P w K mg base) : CalM P w K mg base 5 (fC K) "__neg__" ["self"] (sp_Fracd_negd K) := by
  have F : FunD K "__neg__" "Frac.__neg__" (defArgs (inClass (top 41) 6)) (defBody (inClass (top 41) 6)) (defScope (inClass (top 41) 6)) [] [] (ma K (ga K "Frac") "__neg__") (fdA K (ma K (ga K "Frac") "__neg__")) := h.says.funD 7
  have G : FnOk P w K mg base (L2.CX P w) (4 + 1) (ma K (ga K "Frac") "__neg__") (fdA K (ma K (ga K "Frac") "__neg__")) ["self"] (sp_Fracd_negd K) := okX F sc_Fracd_negd (fun vs H Q E hs => by (repeat (obtain ⟨_, hs⟩ := hs)) <;> subst_vars <;> rfl) (fun cdv A outer s H vs Q E hr hs => ?_)
  · exact ⟨G, h.ff.cls, h.ff.meth _ (by decide +kernel), F.bindsN (fun _ _ _ _ _ _ us hl => match us, hl with | [_], _ => rfl)⟩
  refine ⟨_, (pss_one (ps_ret (pe_frac2 c_FR hr passL (pa_cons (pe_un un_neg (pe_fld (pv 0) (by rfl))) (pa_cons (pe_fld (pv 0) (by rfl)) pa_nil))))), ?_⟩
  obtain ⟨a, n, d, rfl, ⟨dx, ha⟩, ⟨pd, sn, sd⟩, hq⟩ := hs
  have ff := h.ff
  exact ⟨_, rfl, _, _, _, _, _, rfl, ha, ff.cls, ff.no _ (by decide +kernel), rfl, _, rfl, ⟨_, rfl, _, _, _, _, _, rfl, ha, ff.cls, ff.no _ (by decide +kernel), rfl, mk_frac (Bd.mono sd (by decide)) (by omega) fun H' q' s2 _ f => hq H' q' s2 f⟩⟩
end
end K0
namespace K0
open PySem PySem.Spec PyProof.Rows L2 He HX KF
section
variable {P : Program} {w : World} {K : PySem.W.Frag} {mg : Str → Option Value} {base : Heap}
def NN_Fracd_strd : List PySem.Str := ["self"]
theorem sc_Fracd_strd : FnScope NN_Fracd_strd ["self"] (defScope (inClass (top 41) 10)) := ⟨rfl, rfl, rfl, by decide +kernel, rfl, by decide +kernel, by decide +kernel⟩
theorem ok_Fracd_strd (h : HK K mg) (c_digits_of : Cal P w K mg base 1 "digits_of" ["number"] (sp_digits_of K)) : CalM P w K mg base 2 (fC K) "__str__" ["self"] (sp_Fracd_strd K) := by
  have F : FunD K "__str__" "Frac.__str__" (defArgs (inClass (top 41) 10)) (defBody (inClass (top 41) 10)) (defScope (inClass (top 41) 10)) [] [] (ma K (ga K "Frac") "__str__") (fdA K (ma K (ga K "Frac") "__str__")) := h.says.funD 11
  have G : FnOk P w K mg base (L2.CX P w) (1 + 1) (ma K (ga K "Frac") "__str__") (fdA K (ma K (ga K "Frac") "__str__")) ["self"] (sp_Fracd_strd K) := okX F sc_Fracd_strd (fun vs H Q E hs => by (repeat (obtain ⟨_, hs⟩ := hs)) <;> subst_vars <;> rfl) (fun cdv A outer s H vs Q E hr hs => ?_)
  · exact ⟨G, h.ff.cls, h.ff.meth _ (by decide +kernel), F.bindsN (fun _ _ _ _ _ _ us hl => match us, hl with | [_], _ => rfl)⟩
  refine ⟨_, (pss_cons (ps_if (pt_cmpR op_eq (pe_fld (pv 0) (by rfl)) pe_int (nomark _))
        (pss_one (ps_ret (pe_callTy SkE.call_str_str (by rfl) (h.free "str") (by decide +kernel) (pa_cons (pe_cal c_digits_of hr passL (pa_cons (pe_fld (pv 0) (by rfl)) pa_nil)) pa_nil))))
        pss_nil)
      (pss_one (ps_ret (pe_joined (.cons (pe_fmt (pe_cal c_digits_of hr passL (pa_cons (pe_fld (pv 0) (by rfl)) pa_nil))) (.cons pe_str (.cons (pe_fmt (pe_cal c_digits_of hr passL (pa_cons (pe_fld (pv 0) (by rfl)) pa_nil))) .nil))))))), ?_⟩
  obtain ⟨a, n, d, rfl, ⟨dx, ha⟩, bn, bd, hq⟩ := hs
  have ff := h.ff
  have l1 := len_num bn
  have l2 := len_num bd
  have l3 : (Str.ofString "/").length = 1 := by decide +kernel
  have l0 : Str.empty.length = 0 := rfl
  have e0 : ∀ x : Str, Str.empty ++ x = x := fun x => TL.ext_tl (by rw [TL.tl_append]; rfl)
  refine ⟨_, rfl, _, _, _, _, _, rfl, ha, ff.cls, ff.no _ (by decide +kernel), rfl, rfl, _, rfl, ite2 (fun c => ?_) (fun c => ?_)⟩
  · have c1 : d = 1 := by simpa using c
    refine ⟨_, rfl, _, _, _, _, _, rfl, ha, ff.cls, ff.no _ (by decide +kernel), rfl, n, rfl, bn, fun H1 s1 => ⟨_, rfl, ?_⟩⟩
    have := hq H1 s1
    unfold txt at this
    rw [if_pos c1] at this
    exact this
  · have c1 : ¬ d = 1 := by simpa using c
    refine ⟨_, rfl, _, _, _, _, _, rfl, ha, ff.cls, ff.no _ (by decide +kernel), rfl, n, rfl, bn, fun H1 s1 => have ha1 := s1 _ _ ha; .inl ⟨_, rfl, small_size (by omega), _, rfl, small_size (by rw [str_len_app]; omega), _, rfl, small_size (by rw [str_len_app, str_len_app]; omega), _, rfl, _, _, _, _, _, rfl, ha1, ff.cls, ff.no _ (by decide +kernel), rfl, d, rfl, bd, fun H2 s2 => .inl ⟨_, rfl, small_size (by omega), _, rfl, small_size (by rw [str_len_app, str_len_app, str_len_app]; omega), ?_⟩⟩⟩
    have := hq H2 (s1.trans s2)
    unfold txt at this
    rw [if_neg c1] at this
    show Q (.str (Str.empty ++ Str.ofString (toString n) ++ Str.ofString "/" ++ Str.ofString (toString d))) H2
    rw [e0]
    exact this
end
end K0
namespace K0
open PySem PySem.Spec PyProof.Rows L2 He HX KF
section
variable {P : Program} {w : World} {K : PySem.W.Frag} {mg : Str → Option Value} {base : Heap}
def NN_Fracd_subd : List PySem.Str := ["self", "other", "num", "den"]
theorem sc_Fracd_subd : FnScope NN_Fracd_subd ["self", "other"] (defScope (inClass (top 41) 2)) := ⟨rfl, rfl, rfl, by decide +kernel, rfl, by decide +kernel, by decide +kernel⟩
theorem ok_Fracd_subd (h : HK K mg) (c_FR : CalF P w K mg base) (c_num_den : Cal P w K mg base 1 "num_den" ["number"] (sp_num_den K)) : CalM P w K mg base 5 (fC K) "__sub__" ["self", "other"] (sp_Fracd_subd K) := by
  have F : FunD K "__sub__" "Frac.__sub__" (defArgs (inClass (top 41) 2)) (defBody (inClass (top 41) 2)) (defScope (inClass (top 41) 2)) [] [] (ma K (ga K "Frac") "__sub__") (fdA K (ma K (ga K "Frac") "__sub__")) := h.says.funD 3
  have G : FnOk P w K mg base (L2.CX P w) (4 + 1) (ma K (ga K "Frac") "__sub__") (fdA K (ma K (ga K "Frac") "__sub__")) ["self", "other"] (sp_Fracd_subd K) := okX F sc_Fracd_subd (fun vs H Q E hs => by (repeat (obtain ⟨_, hs⟩ := hs)) <;> subst_vars <;> rfl) (fun cdv A outer s H vs Q E hr hs => ?_)
  · exact ⟨G, h.ff.cls, h.ff.meth _ (by decide +kernel), F.bindsN (fun _ _ _ _ _ _ us hl => match us, hl with | [_, _], _ => rfl)⟩
  refine ⟨_, (pss_cons (ps_asg (pe_cal c_num_den hr passL (pa_cons (pv 1) pa_nil)) (pg_tup (by rfl) (pgs_cons (pg_name (i := 2) sc_Fracd_subd.nd rfl (by first | exact Or.inl rfl | exact Or.inr rfl)) (pgs_cons (pg_name (i := 3) sc_Fracd_subd.nd rfl (by first | exact Or.inl rfl | exact Or.inr rfl)) pgs_nil))))
      (pss_one (ps_ret (pe_frac2 c_FR hr passL (pa_cons (pe_op op_sub (pe_op op_mulW (pe_fld (pv 0) (by rfl)) (pv 3)) (pe_op op_mulW (pv 2) (pe_fld (pv 0) (by rfl)))) (pa_cons (pe_op op_mulW (pe_fld (pv 0) (by rfl)) (pv 3)) pa_nil)))))), ?_⟩
  obtain ⟨a, y, n, d, m, e, rfl, ⟨dx, ha⟩, hy, ⟨pd, sn, sd⟩, ⟨pe, sm, se⟩, hq⟩ := hs
  have ff := h.ff
  refine ⟨_, rfl, y, m, e, rfl, hy, fun q hqn => ⟨q, _, rfl, SqT.of upd_same, rfl, _, _, rfl, _, _, rfl, rfl, ?_⟩⟩
  have s1 := same_upd (H := H) (a := q) (o := .tup [.int m, .int e]) hqn
  have ha' := s1 _ _ ha
  have de : d * e ≠ 0 := Int.mul_ne_zero (by omega) (by omega)
  have bde : Bd 1000 (d * e) := Bd.mono (Bd.mul sd se) (by decide)
  refine ⟨_, rfl, _, _, _, _, _, rfl, ha', ff.cls, ff.no _ (by decide +kernel), rfl, _, rfl, _, _, rfl, rfl, Bd.mulW sn se, _, rfl, ⟨_, rfl, _, _, _, _, _, rfl, ha', ff.cls, ff.no _ (by decide +kernel), rfl, _, _, rfl, rfl, Bd.mulW sm sd, _, _, rfl, rfl, ⟨_, rfl, _, _, _, _, _, rfl, ha', ff.cls, ff.no _ (by decide +kernel), rfl, _, rfl, _, _, rfl, rfl, Bd.mulW sd se, mk_frac bde de fun H' q' s2 _ f => hq H' q' (s1.trans s2) f⟩⟩⟩
end
end K0
namespace K0
open PySem PySem.Spec PyProof.Rows L2 He HX KF
section
variable {P : Program} {w : World} {K : PySem.W.Frag} {mg : Str → Option Value} {base : Heap}
def NN__law_cells : List PySem.Str := ["script", "cells", "cell", "mixed"]
theorem sc__law_cells : FnScope NN__law_cells ["script"] (defScope (top 51)) := ⟨rfl, rfl, rfl, by decide +kernel, rfl, by decide +kernel, by decide +kernel⟩
theorem ok__law_cells (h : HK K mg) : Cal P w K mg base 1 "_law_cells" ["script"] (sp__law_cells K) := by
  have F : FunD K "_law_cells" "_law_cells" (defArgs (top 51)) (defBody (top 51)) (defScope (top 51)) [] [] (ga K "_law_cells") (fdA K (ga K "_law_cells")) := h.says.funD 27
  have G : FnOk P w K mg base (L2.CX P w) (0 + 1) (ga K "_law_cells") (fdA K (ga K "_law_cells")) ["script"] (sp__law_cells K) := okX F sc__law_cells (fun vs H Q E hs => by (repeat (obtain ⟨_, hs⟩ := hs)) <;> subst_vars <;> rfl) (fun cdv A outer s H vs Q E hr hs => ?_)
  · exact ⟨G, h.glo _, F.kp, F.bindsN (fun _ _ _ _ _ _ us hl => match us, hl with | [_], _ => rfl)⟩
  refine ⟨_, (pss_cons (ps_setLc (i := 1) (own := [("cell", 2)]) (g := gName 2) (by rfl) sc__law_cells.nd rfl rfl (sw_true rfl rfl rfl (by decide +kernel)) (pi_list (pe_slice sl_list (pv 0) po_none (po_some pe_int))) (blkOk_by (own := [("cell", 2)]) (N := NN__law_cells) (sc := defScope (top 51)) (by decide +kernel)) (fun _ _ _ _ _ => pg_name (i := 2) sc__law_cells.nd rfl (Or.inl rfl)) (fun _ _ _ _ _ => pts_nil) (fun _ _ _ _ _ => (pe_op op_modN (pe_callTy call_int1 (by rfl) (h.free "int") (by decide +kernel) (pa_cons (pv 2) pa_nil)) (pe_op op_pow pe_int pe_int))))
      (pss_cons (ps_set (i := 3) sc__law_cells.nd rfl (by first | exact Or.inl rfl | exact Or.inr rfl) pe_int)
      (pss_cons (ps_for (passes_of rfl) (by rfl) (pi_list (pv 1)) (pg_name (i := 2) sc__law_cells.nd rfl (by first | exact Or.inl rfl | exact Or.inr rfl))
        (pss_one (ps_set (i := 3) sc__law_cells.nd rfl (by first | exact Or.inl rfl | exact Or.inr rfl) (pe_op op_modN (pe_callTy call_int1 (by rfl) (h.free "int") (by decide +kernel) (pa_cons (pe_op op_add (pe_op op_mulW (pv 3) pe_int) (pv 2)) pa_nil)) pe_int))))
      (pss_one (ps_ret (pe_op op_cat (pv 1) (pe_lst (pa_cons (pe_op op_add (pe_op op_mulW (pe_op op_mulW (pe_op op_pow pe_int pe_int) (pe_op op_pow pe_int pe_int)) (pe_op op_add (pv 3) pe_int)) (pe_op op_pow (pe_op op_add (pv 3) pe_int) pe_int)) pa_nil)))))))), ?_⟩
  obtain ⟨a, ns, rfl, ha, hq⟩ := hs
  have cut : ∃ ms : List Int, cutV (ns.map V.int) none (some 63) = ms.map V.int ∧ ms.length ≤ 63 := by
    refine ⟨(ns.drop 0).take (HT.sIx ns.length ns.length (some ((63 : Nat) : Int))), ?_, ?_⟩
    · unfold cutV
      rw [List.length_map, HT.sIx_none, ← List.map_drop, ← List.map_take, Nat.sub_zero]
      rfl
    · rw [List.length_take, HT.sIx_nat]
      omega
  obtain ⟨ms, em, lm⟩ := cut
  have cp60 : CPow 10 60 := ⟨by decide, by decide, by decide⟩
  have ne60 : (10 : Int) ^ (60 : Int).toNat ≠ 0 := by decide
  refine ⟨_, rfl, _, rfl, a, _, rfl, ha, fun p hp => ?_⟩
  rw [em]
  refine ⟨p, rfl, ⟨_, SqL.of upd_same⟩, fun D hD => lc_list (K := K) (a := p) (xs := ms.map V.int) (fun i H' => H' = upd (upd H p (.lst (ms.map V.int))) D (.lst (((ms.take i).map fun c => c.fmod (10 ^ (60 : Int).toNat)).map V.int))) rfl ?_ ?_ ?_⟩
  · rintro i H' _ rfl
    exact SqL.of (same_upd hD _ _ upd_same)
  · rintro i v H' hv rfl
    rw [List.getElem?_map] at hv
    cases eb : ms[i]? with
    | none =>
      rw [eb] at hv
      cases hv
    | some c =>
      rw [eb] at hv
      cases hv
      have tk : ms.take (i + 1) = ms.take i ++ [c] := by
        rw [List.take_succ, eb]
        rfl
      have hlen : ((((ms.take i).map fun c => c.fmod (10 ^ (60 : Int).toNat)).map V.int)).length < sizeLine := small_lt (by
        rw [List.length_map, List.length_map, List.length_take]
        omega)
      refine ⟨rfl, _, rfl, .inl ⟨_, rfl, _, _, rfl, rfl, cp60, _, _, rfl, rfl, ne60, _, upd_same, hlen, ?_⟩⟩
      show upd _ _ _ = upd _ _ _
      rw [upd_upd, tk, List.map_append, List.map_append]
      rfl
  rintro H' rfl
  have lt : (ms.map V.int).length = ms.length := List.length_map ..
  rw [lt, List.take_length]
  have S := (same_upd (H := H) (o := .lst (ms.map V.int)) hp).trans (same_upd (o := .lst ((ms.map fun c => c.fmod (10 ^ (60 : Int).toNat)).map V.int)) hD)
  obtain ⟨cs, ecs, lcs⟩ : ∃ cs : List Int, cs = ms.map (fun c => c.fmod (10 ^ (60 : Int).toNat)) ∧ cs.length ≤ 63 := ⟨_, rfl, by rw [List.length_map]; exact lm⟩
  rw [← ecs] at S ⊢
  have hC : (upd (upd H p (.lst (ms.map V.int))) D (.lst (cs.map V.int))) D = some (.lst (cs.map V.int)) := upd_same
  have nD : H D = none := (same_upd (H := H) (o := .lst (ms.map V.int)) hp).free hD
  generalize (upd (upd H p (.lst (ms.map V.int))) D (.lst (cs.map V.int))) = H1 at *
  dsimp only [gName, tSeq, tAsg, tC]
  refine ⟨_, rfl, D, rfl, ⟨_, SqL.of hC⟩, for_list (K := K) (a := D) (xs := cs.map V.int) (fun i σ H' => H' = H1 ∧ ∃ (m : Int) (r : Option V), σ = [some (.ref a), some (.ref D), r, some (.int m)] ∧ 0 ≤ m ∧ m < 999999000001) ?_ ?_ ?_ ?_⟩
  · exact ⟨rfl, 5, none, rfl, by decide, by decide⟩
  · rintro i σ H' _ ⟨rfl, _⟩
    exact SqL.of hC
  · rintro i v σ H' hv ⟨rfl, m, r, rfl, m0, m1⟩
    rw [List.getElem?_map] at hv
    obtain ⟨c, _, rfl⟩ := Option.map_eq_some_iff.mp hv
    have := fmod_rng (x := m * 131 + c) (y := 999999000001) (by decide)
    exact ⟨_, rfl, _, _, rfl, rfl, Bd.mulW (a := 60) (b := 60) (bd_of m0 m1 (by decide)) (by unfold Bd; decide), _, rfl, _, _, rfl, rfl, .inl ⟨_, rfl, _, _, rfl, rfl, (show (999999000001 : Int) ≠ 0 by decide), rfl, _, _, rfl, this.1, this.2⟩⟩
  rintro σ H' ⟨rfl, m, r, rfl, m0, m1⟩
  have b1 : Bd 800 ((48271 : Int) ^ (48 : Int).toNat) := by
    unfold Bd
    decide +kernel
  have b2 : Bd 800 ((39373 : Int) ^ (48 : Int).toNat) := by
    unfold Bd
    decide +kernel
  refine ⟨_, rfl, _, _, rfl, rfl, ⟨by decide, by decide, by decide⟩, _, _, rfl, rfl, ⟨by decide, by decide, by decide⟩, _, _, rfl, rfl, Bd.mulW b1 b2, _, rfl, _, _, rfl, rfl, _, _, rfl, rfl, Bd.mulW (Bd.mul b1 b2) (bd_of (k := 60) (m := 999999000008) (by omega) (by omega) (by decide)), _, rfl, _, _, rfl, rfl, _, _, rfl, rfl, ⟨by decide, by decide, by omega⟩, _, _, rfl, rfl, small_size (show 1 ≤ 1000 by decide), fun q hq' => ?_⟩
  refine ⟨D, q, _, _, rfl, rfl, same_upd hq' _ _ hC, upd_same, small_size (by simp; omega), fun r hr => ?_⟩
  refine hq _ r ((S.trans (same_upd hq')).trans (same_upd hr)) (S.free ((same_upd hq').free hr)) ⟨cs ++ [(48271 : Int) ^ (48 : Int).toNat * 39373 ^ (48 : Int).toNat * (m + 6) + (m + 17) ^ (9 : Int).toNat], ?_, by simp, by rw [List.length_append]; exact Nat.succ_le_succ lcs⟩
  rw [upd_same, List.map_append]
  rfl
end
end K0
namespace K0
open PySem PySem.Spec PyProof.Rows L2 He HX KF
section
variable {P : Program} {w : World} {K : PySem.W.Frag} {mg : Str → Option Value} {base : Heap}
def NN__law_common : List PySem.Str := ["one", "two", "rest"]
theorem sc__law_common : FnScope NN__law_common ["one", "two"] (defScope (top 56)) := ⟨rfl, rfl, rfl, by decide +kernel, rfl, by decide +kernel, by decide +kernel⟩
theorem ok__law_common (h : HK K mg) : Cal P w K mg base 1 "_law_common" ["one", "two"] (sp__law_common K) := by
  have F : FunD K "_law_common" "_law_common" (defArgs (top 56)) (defBody (top 56)) (defScope (top 56)) [] [] (ga K "_law_common") (fdA K (ga K "_law_common")) := h.says.funD 32
  have G : FnOk P w K mg base (L2.CX P w) (0 + 1) (ga K "_law_common") (fdA K (ga K "_law_common")) ["one", "two"] (sp__law_common K) := okX F sc__law_common (fun vs H Q E hs => by (repeat (obtain ⟨_, hs⟩ := hs)) <;> subst_vars <;> rfl) (fun cdv A outer s H vs Q E hr hs => ?_)
  · exact ⟨G, h.glo _, F.kp, F.bindsN (fun _ _ _ _ _ _ us hl => match us, hl with | [_, _], _ => rfl)⟩
  refine ⟨_, (pss_cons (ps_set (i := 0) sc__law_common.nd rfl (by first | exact Or.inl rfl | exact Or.inr rfl) (pe_callB call_abs (by rfl) (h.free "abs") (by decide +kernel) (pa_cons (pv 0) pa_nil)))
      (pss_cons (ps_set (i := 1) sc__law_common.nd rfl (by first | exact Or.inl rfl | exact Or.inr rfl) (pe_callB call_abs (by rfl) (h.free "abs") (by decide +kernel) (pa_cons (pv 1) pa_nil)))
      (pss_cons (ps_while (passes_of rfl) (pt_cmpR op_gt (pv 1) pe_int (nomark _))
        (pss_cons (ps_set (i := 2) sc__law_common.nd rfl (by first | exact Or.inl rfl | exact Or.inr rfl) (pe_op op_modN (pe_callTy call_int1 (by rfl) (h.free "int") (by decide +kernel) (pa_cons (pv 0) pa_nil)) (pv 1)))
        (pss_cons (ps_set (i := 0) sc__law_common.nd rfl (by first | exact Or.inl rfl | exact Or.inr rfl) (pv 1))
        (pss_one (ps_set (i := 1) sc__law_common.nd rfl (by first | exact Or.inl rfl | exact Or.inr rfl) (pv 2))))))
      (pss_one (ps_ret (pv 0)))))), ?_⟩
  obtain ⟨a, b, rfl, hq⟩ := hs
  refine ⟨_, rfl, _, rfl, _, rfl, _, rfl, ?_⟩
  dsimp only [gName, tSeq]
  refine while_by (fun σ H' => H' = H ∧ ∃ (x y : Int) (r : Option V), σ = [some (.int x), some (.int y), r] ∧ 0 ≤ x ∧ 0 ≤ y ∧ gi x y = gi a b)
    (fun σ _ => match σ with | [_, some (.int y), _] => y.toNat | _ => 0) ?_ ?_ (fun σ H Q Q' i ⟨v, e, a, b, h1, h2, k, t, q⟩ => ⟨v, e, a, b, h1, h2, k, t, i _ _ q⟩)
  · exact ⟨rfl, _, _, _, rfl, by split <;> omega, by split <;> omega, gi_abs a b⟩
  rintro σ H' ⟨rfl, x, y, r, rfl, hx, hy, hg⟩
  refine ⟨_, rfl, _, _, rfl, rfl, _, rfl, ite2 (fun c => ?_) (fun c => ?_)⟩
  · have hy' : 0 < y := by simpa using c
    refine ⟨_, rfl, .inl ⟨_, rfl, _, rfl, _, _, rfl, rfl, by omega, _, rfl, _, rfl, ?_⟩⟩
    have := fmod_rng (x := x) hy'
    exact ⟨⟨rfl, _, _, _, rfl, by omega, this.1, (gi_step hx hy').trans hg⟩, by
      show (x.fmod y).toNat < y.toNat
      omega⟩
  · have h0 : y = 0 := by
      have : ¬ 0 < y := by simpa using c
      omega
    subst h0
    refine ⟨_, rfl, ?_⟩
    rw [gi_zero hx] at hg
    rw [hg]
    exact hq
end
end K0
namespace K0
open PySem PySem.Spec PyProof.Rows L2 He HX KF
section
variable {P : Program} {w : World} {K : PySem.W.Frag} {mg : Str → Option Value} {base : Heap}
def NN__law_digits : List PySem.Str := ["pool", "text", "k"]
theorem sc__law_digits : FnScope NN__law_digits ["pool"] (defScope (top 72)) := ⟨rfl, rfl, rfl, by decide +kernel, rfl, by decide +kernel, by decide +kernel⟩
theorem ok__law_digits (h : HK K mg) (c__law_draw : Cal P w K mg base 1 "_law_draw" ["pool", "many"] (sp__law_draw K)) : Cal P w K mg base 2 "_law_digits" ["pool"] (sp__law_digits K) := by
  have F : FunD K "_law_digits" "_law_digits" (defArgs (top 72)) (defBody (top 72)) (defScope (top 72)) [] [] (ga K "_law_digits") (fdA K (ga K "_law_digits")) := h.says.funD 48
  have G : FnOk P w K mg base (L2.CX P w) (1 + 1) (ga K "_law_digits") (fdA K (ga K "_law_digits")) ["pool"] (sp__law_digits K) := okX F sc__law_digits (fun vs H Q E hs => by (repeat (obtain ⟨_, hs⟩ := hs)) <;> subst_vars <;> rfl) (fun cdv A outer s H vs Q E hr hs => ?_)
  · exact ⟨G, h.glo _, F.kp, F.bindsN (fun _ _ _ _ _ _ us hl => match us, hl with | [_], _ => rfl)⟩
  refine ⟨_, (pss_cons (ps_set (i := 1) sc__law_digits.nd rfl (by first | exact Or.inl rfl | exact Or.inr rfl) (pe_ix ix_list (pe_lst (pa_cons pe_str (pa_cons pe_str (pa_cons pe_str (pa_cons pe_str pa_nil))))) (pe_cal c__law_draw hr passL (pa_cons (pv 0) (pa_cons pe_int pa_nil))) (fun _ _ => rfl)))
      (pss_cons (ps_for (passes_of rfl) (by rfl) (pi_range1 (by rfl) (h.free "range") (pa_cons (pe_ix ix_list (pe_lst (pa_cons pe_int (pa_cons pe_int (pa_cons pe_int (pa_cons pe_int (pa_cons pe_int (pa_cons pe_int (pa_cons pe_int (pa_cons pe_int pa_nil))))))))) (pe_cal c__law_draw hr passL (pa_cons (pv 0) (pa_cons pe_int pa_nil))) (fun _ _ => rfl)) pa_nil)) (pg_name (i := 2) sc__law_digits.nd rfl (by first | exact Or.inl rfl | exact Or.inr rfl))
        (pss_one (ps_set (i := 1) sc__law_digits.nd rfl (by first | exact Or.inl rfl | exact Or.inr rfl) (pe_op op_add_str (pv 1) (pe_ix ix_str pe_str (pe_cal c__law_draw hr passL (pa_cons (pv 0) (pa_cons pe_int pa_nil))) (fun _ _ => rfl))))))
      (pss_one (ps_ret (pv 1))))), ?_⟩
  obtain ⟨p, rfl, hp, hq⟩ := hs
  refine ⟨small_size (show 4 ≤ 1000 by decide), fun l hl => ?_⟩
  have t0 := (PoolTo.refl hp).upd (o := .lst [.str "", .str "", .str "", .str "-"]) hl
  refine ⟨_, rfl, p, _, rfl, t0.2, by decide, bd64 (by decide), fun H1 i t1 i0 i4 => ?_⟩
  have lp : ∀ {H2 : Hp} {x : Addr}, PoolAt H2 p → H2 x = none → x ≠ p := fun {H2 x} h2 hx z => by
    obtain ⟨xs, e, _⟩ := h2
    rw [z, e] at hx
    cases hx
  have h1 := t1.1 l _ (lp hp hl) upd_same
  obtain ⟨v, hv, hm⟩ := atI_some (xs := ([.str "", .str "", .str "", .str "-"] : List V)) i0 (by simpa using i4)
  have hz : ∃ z : Str, v = .str z ∧ z.length ≤ 1 := by
    simp only [List.mem_cons, List.mem_nil_iff, or_false] at hm
    rcases hm with e | e | e | e
    · exact ⟨_, e, by decide +kernel⟩
    · exact ⟨_, e, by decide +kernel⟩
    · exact ⟨_, e, by decide +kernel⟩
    · exact ⟨_, e, by decide +kernel⟩
  obtain ⟨z, rfl, hz⟩ := hz
  refine ⟨l, _, _, _, rfl, rfl, SqL.of h1, hv, ?_⟩
  have T1 := t0.trans t1
  refine ⟨small_size (show 8 ≤ 1000 by decide), fun l2 hl2 => ?_⟩
  have t2 := T1.upd (o := .lst [.int 1, .int 1, .int 2, .int 3, .int 11, .int 12, .int 13, .int 0]) hl2
  refine ⟨_, rfl, p, _, rfl, t2.2, by decide, bd64 (by decide), fun H2 i2 t3 j0 j8 => ?_⟩
  have h2 := t3.1 l2 _ (lp T1.2 hl2) upd_same
  obtain ⟨v2, hv2, hm2⟩ := atI_some (xs := ([.int 1, .int 1, .int 2, .int 3, .int 11, .int 12, .int 13, .int 0] : List V)) j0 (by simpa using j8)
  have hj : ∃ j : Int, v2 = .int j ∧ 0 ≤ j ∧ j ≤ 13 := by
    simp only [List.mem_cons, List.mem_nil_iff, or_false] at hm2
    rcases hm2 with e | e | e | e | e | e | e | e <;> exact ⟨_, e, by decide, by decide⟩
  obtain ⟨j, rfl, jl, jh⟩ := hj
  have T3 := t2.trans t3
  refine ⟨l2, _, _, _, rfl, rfl, SqL.of h2, hv2, j, rfl, by omega, by omega, for_range (n := j.toNat) (fun i σ H' => PoolTo p H H' ∧ ∃ (z : Str) (r : Option V), σ = [some (.ref p), some (.str z), r] ∧ z.length ≤ 1 + i) ⟨T3, z, _, rfl, hz⟩ ?_ ?_⟩
  · rintro k σ H' hk ⟨T, z, r, rfl, hz⟩
    refine ⟨_, rfl, _, rfl, p, _, rfl, T.2, by decide, bd64 (by decide), fun H3 d t4 d0 d10 => ?_⟩
    obtain ⟨c, hc, _⟩ := atI_some (xs := (Str.ofString "1234567890").cps.toList) d0 (by
      have : (Str.ofString "1234567890").cps.toList.length = 10 := by decide +kernel
      omega)
    have l1 : (⟨#[c]⟩ : Str).length = 1 := rfl
    refine ⟨_, _, c, rfl, rfl, small_size (by decide +kernel), hc, _, _, rfl, rfl, small_size (by omega), ⟨T.trans t4, _, _, rfl, ?_⟩⟩
    rw [str_len_app]
    omega
  · rintro σ H' ⟨T, z, r, rfl, hz⟩
    exact ⟨_, rfl, hq H' z T (by omega)⟩
end
end K0
namespace K0
open PySem PySem.Spec PyProof.Rows L2 He HX KF
section
variable {P : Program} {w : World} {K : PySem.W.Frag} {mg : Str → Option Value} {base : Heap}
def NN__law_divided : List PySem.Str := ["frac", "other", "one", "two", "way", "top", "below", "floor", "told", "over"]
theorem sc__law_divided : FnScope NN__law_divided ["frac", "other", "one", "two"] (defScope (top 67)) := ⟨rfl, rfl, rfl, by decide +kernel, rfl, by decide +kernel, by decide +kernel⟩
theorem ok__law_divided (h : HK K mg) (ff : FF K) (c_Fracd_floordivd : CalM P w K mg base 3 (fC K) "__floordiv__" ["self", "other"] (sp_Fracd_floordivd K)) (c_Fracd_modd : CalM P w K mg base 5 (fC K) "__mod__" ["self", "other"] (sp_Fracd_modd K)) (c_Frac_over : CalM P w K mg base 5 (fC K) "over" ["self", "other"] (sp_Frac_over K)) (c__law_is : Cal P w K mg base 3 "_law_is" ["told", "num", "den"] (sp__law_is K)) (c__law_refused : Cal P w K mg base 7 "_law_refused" ["frac", "zero", "way"] (sp__law_refused K)) (c__law_whole : CalW P w K mg base 1 "_law_whole" ["told"] (sp__law_whole K)) : Cal P w K mg base 8 "_law_divided" ["frac", "other", "one", "two"] (sp__law_divided K) := by
  have F : FunD K "_law_divided" "_law_divided" (defArgs (top 67)) (defBody (top 67)) (defScope (top 67)) [] [] (ga K "_law_divided") (fdA K (ga K "_law_divided")) := h.says.funD 43
  have G : FnOk P w K mg base (L2.CX P w) (7 + 1) (ga K "_law_divided") (fdA K (ga K "_law_divided")) ["frac", "other", "one", "two"] (sp__law_divided K) := okX F sc__law_divided (fun vs H Q E hs => by (repeat (obtain ⟨_, hs⟩ := hs)) <;> subst_vars <;> rfl) (fun cdv A outer s H vs Q E hr hs => ?_)
  · exact ⟨G, h.glo _, F.kp, F.bindsN (fun _ _ _ _ _ _ us hl => match us, hl with | [_, _, _, _], _ => rfl)⟩
  refine ⟨_, (pss_cons (ps_if (pt_cmpR op_eq (pe_ix ix_tup (pv 3) pe_int (fun _ _ => rfl)) pe_int (nomark _))
        (pss_cons (ps_for (passes_of rfl) (by rfl) (pi_range1 (by rfl) (h.free "range") (pa_cons pe_int pa_nil)) (pg_name (i := 4) sc__law_divided.nd rfl (by first | exact Or.inl rfl | exact Or.inr rfl))
          (pss_one (ps_if (pt_not (pt_val (pe_cal c__law_refused hr passL (pa_cons (pv 0) (pa_cons (pv 1) (pa_cons (pv 4) pa_nil))))))
            (pss_one (ps_ret pe_bl))
            pss_nil)))
        (pss_one (ps_ret pe_bl)))
        pss_nil)
      (pss_cons (ps_set (i := 5) sc__law_divided.nd rfl (by first | exact Or.inl rfl | exact Or.inr rfl) (pe_op op_mulW (pe_ix ix_tup (pv 2) pe_int (fun _ _ => rfl)) (pe_ix ix_tup (pv 3) pe_int (fun _ _ => rfl))))
      (pss_cons (ps_set (i := 6) sc__law_divided.nd rfl (by first | exact Or.inl rfl | exact Or.inr rfl) (pe_op op_mulW (pe_ix ix_tup (pv 2) pe_int (fun _ _ => rfl)) (pe_ix ix_tup (pv 3) pe_int (fun _ _ => rfl))))
      (pss_cons (ps_set (i := 7) sc__law_divided.nd rfl (by first | exact Or.inl rfl | exact Or.inr rfl) (pe_op op_fdivX (pv 5) (pv 6)))
      (pss_cons (ps_set (i := 8) sc__law_divided.nd rfl (by first | exact Or.inl rfl | exact Or.inr rfl) (pe_op (op_ownB ff.own c_Fracd_floordivd.mt.at_ c_Fracd_floordivd.mt.fn (ff.no _ (by decide +kernel)) (by rfl) (by rfl) c_Fracd_floordivd.ok (hr.mono (by decide)) c_Fracd_floordivd.b passL) (pv 0) (pv 1)))
      (pss_cons (ps_if (PW.pt (pw_or (pt_not (pt_val (pe_cal c__law_whole.cal hr passL (pa_cons (pv 8) pa_nil)))) (pw_or1 (pt_cmpR op_ne (pv 8) (pv 7) (nomark _)))))
        (pss_one (ps_ret pe_bl))
        pss_nil)
      (pss_cons (ps_set (i := 9) sc__law_divided.nd rfl (by first | exact Or.inl rfl | exact Or.inr rfl) (pe_op op_sub (pv 5) (pe_op op_mulW (pv 7) (pv 6))))
      (pss_cons (ps_if (pt_not (pt_val (pe_cal c__law_is hr passL (pa_cons (pe_op (op_ownB ff.own c_Fracd_modd.mt.at_ c_Fracd_modd.mt.fn (ff.no _ (by decide +kernel)) (by rfl) (by rfl) c_Fracd_modd.ok (hr.mono (by decide)) c_Fracd_modd.b passL) (pv 0) (pv 1)) (pa_cons (pv 9) (pa_cons (pe_op op_mulW (pe_ix ix_tup (pv 2) pe_int (fun _ _ => rfl)) (pe_ix ix_tup (pv 3) pe_int (fun _ _ => rfl))) pa_nil))))))
        (pss_one (ps_ret pe_bl))
        pss_nil)
      (pss_one (ps_ret (pe_cal c__law_is hr passL (pa_cons (pe_calM c_Frac_over hr passL (pv 0) (pa_cons (pv 1) pa_nil)) (pa_cons (pv 5) (pa_cons (pv 6) pa_nil)))))))))))))), ?_⟩
  obtain ⟨f, y, a, b, n, d, m, e, fl, fm, rfl, h1, h2, ⟨dx, hF⟩, hM, hq⟩ := hs
  obtain ⟨ha, hd, ln, ld, hfl⟩ := id h1
  obtain ⟨hb, he, lm, le, hfm⟩ := id h2
  have ff := h.ff
  have rt := rtLow hd ln ld
  have rt2 := rtLow he lm le
  have Y := hM.num hfm
  have pd := rt.1
  have pe := rt2.1
  refine ⟨_, rfl, b, _, _, _, rfl, rfl, hb, atI_nat (j := 0) rfl, rfl, _, rfl, ite2 (fun c => ?_) (fun c => ?_)⟩
  · have m0 : m = 0 := by simpa using c
    subst m0
    have ez : lowN 0 e = 0 := (lowN_zero he).mpr rfl
    rw [ez] at Y rt2
    refine ⟨4, rfl, by decide, by decide, for_range (n := 4) (fun i σ H' => Same H H' ∧ ∃ r r1 r2 r3 r4 r5 : Option V, σ = [some (.ref f), some y, some (.ref a), some (.ref b), r, r1, r2, r3, r4, r5]) ⟨Same.refl H, _, _, _, _, _, _, rfl⟩ ?_ ?_⟩
    · rintro i σ H' hi ⟨S, r, r1, r2, r3, r4, r5, rfl⟩
      refine ⟨_, rfl, _, rfl, _, rfl, f, _, _, y, _, _, rfl, ⟨dx, S _ _ hF⟩, rt, Y.same S, rt2, fun H2 s2 => ⟨_, rfl, iteF ?_⟩⟩
      exact ⟨S.trans s2, _, _, _, _, _, _, rfl⟩
    · rintro σ H' ⟨S, r, r1, r2, r3, r4, r5, rfl⟩
      exact hq H' S
  have m0 : m ≠ 0 := fun z => c (by simp [z])
  have mm : lowN m e ≠ 0 := fun z => m0 ((lowN_zero he).mp z)
  have bn := bd40 ln
  have bdd := bd40 ld
  have bm := bd40 lm
  have be := bd40 le
  have dm : d * m ≠ 0 := Int.mul_ne_zero hd m0
  -- the floor of the two ratios
  have fl_eq : (lowN n d * lowD m e).fdiv (lowD n d * lowN m e) = (n * e).fdiv (d * m) := by
    refine fdiv_cross (Int.mul_ne_zero (by omega) mm) dm ?_
    have c1 := low_cross n d
    have c2 := low_cross m e
    calc lowN n d * lowD m e * (d * m) = (lowN n d * d) * (m * lowD m e) := by simp only [Int.mul_assoc, Int.mul_comm, Int.mul_left_comm]
      _ = (n * lowD n d) * (lowN m e * e) := by rw [c1, c2]
      _ = n * e * (lowD n d * lowN m e) := by simp only [Int.mul_assoc, Int.mul_comm, Int.mul_left_comm]
  refine ⟨_, rfl, a, _, _, _, rfl, rfl, ha, atI_nat (j := 0) rfl, _, rfl, b, _, _, _, rfl, rfl, hb, atI_nat (j := 1) rfl, _, _, rfl, rfl, Bd.mulW bn be, ?_⟩
  refine ⟨_, rfl, a, _, _, _, rfl, rfl, ha, atI_nat (j := 1) rfl, _, rfl, b, _, _, _, rfl, rfl, hb, atI_nat (j := 0) rfl, _, _, rfl, rfl, Bd.mulW bdd bm, ?_⟩
  refine ⟨_, rfl, _, rfl, _, _, rfl, rfl, Bd.divX (Bd.mul bdd bm) dm, ?_⟩
  have opnd : ∀ H', Same H H' → Opnd (fC K) y H' := fun H' S => by
    rcases Y with ⟨e1, _⟩ | ⟨q, e1, dy, hy⟩
    · exact .inl ⟨_, e1⟩
    · exact .inr ⟨q, dy, _, e1, S _ _ hy⟩
  refine ⟨_, rfl, _, rfl, f, dx, _, rfl, hF, opnd H (Same.refl H), f, y, _, _, _, _, rfl, ⟨dx, hF⟩, Y, rt, rt2, fun _ H1 s1 => ?_, fun z => absurd z mm⟩
  rw [fl_eq]
  refine ⟨_, rfl, _, rfl, _, rfl, iteF ⟨_, rfl, _, rfl, rfl, _, rfl, iteNS rfl ?_⟩⟩
  have bf : Bd 80 ((n * e).fdiv (d * m)) := (Bd.mul bn be).le (natAbs_fdiv_le _ dm)
  refine ⟨_, rfl, _, rfl, _, rfl, _, _, rfl, rfl, Bd.mulW bf (Bd.mul bdd bm), _, _, rfl, rfl, ?_⟩
  -- the rest
  refine ⟨_, rfl, _, rfl, f, dx, _, rfl, s1 _ _ hF, opnd H1 s1, f, y, _, _, _, _, rfl, ⟨dx, s1 _ _ hF⟩, Y.same s1, rt, rt2, fun _ H2 q2 s2 f2 => ?_, fun z => absurd z mm⟩
  have S2 := s1.trans s2
  have de : d * e ≠ 0 := Int.mul_ne_zero hd he
  refine ⟨_, rfl, _, rfl, a, _, _, _, rfl, rfl, S2.tup ha, atI_nat (j := 1) rfl, _, rfl, b, _, _, _, rfl, rfl, S2.tup hb, atI_nat (j := 1) rfl, _, _, rfl, rfl, Bd.mulW bdd be, q2, _, _, rfl, de, (Bd.mul bdd be).mono (by decide), ?_, fun H3 s3 => ⟨_, rfl, iteF ?_⟩⟩
  · rw [fl_eq] at f2
    have z := low_eq (a := lowN n d * lowD m e - lowN m e * lowD n d * ((n * e).fdiv (d * m))) (b := lowD n d * lowD m e) (a' := n * e - (n * e).fdiv (d * m) * (d * m)) (b' := d * e) (Int.mul_ne_zero (by omega) (by omega)) de ?_
    · rw [z.1, z.2] at f2
      exact f2
    · have c1 := low_cross n d
      have c2 := low_cross m e
      generalize (n * e).fdiv (d * m) = k
      calc (lowN n d * lowD m e - lowN m e * lowD n d * k) * (d * e) = (lowN n d * d) * (lowD m e * e) - (lowN m e * e) * (lowD n d * d) * k := by rw [Int.sub_mul]; simp only [Int.mul_assoc, Int.mul_comm, Int.mul_left_comm]
        _ = (n * lowD n d) * (lowD m e * e) - (m * lowD m e) * (lowD n d * d) * k := by rw [c1, c2]
        _ = (n * e - k * (d * m)) * (lowD n d * lowD m e) := by rw [Int.sub_mul]; simp only [Int.mul_assoc, Int.mul_comm, Int.mul_left_comm]
  have S3 := S2.trans s3
  refine ⟨_, rfl, f, dx, _, rfl, S3 _ _ hF, rfl, _, rfl, f, y, _, _, _, _, rfl, ⟨dx, S3 _ _ hF⟩, Y.same S3, rt, rt2, fun _ H4 q4 s4 f4 => ?_, fun z => absurd z mm⟩
  refine ⟨_, rfl, _, rfl, q4, _, _, rfl, dm, (Bd.mul bdd bm).mono (by decide), ?_, fun H5 s5 => hq H5 ((S3.trans s4).trans s5)⟩
  have z := low_eq (a := lowN n d * lowD m e) (b := lowD n d * lowN m e) (a' := n * e) (b' := d * m) (Int.mul_ne_zero (by omega) mm) dm (by
    have c1 := low_cross n d
    have c2 := low_cross m e
    calc lowN n d * lowD m e * (d * m) = (lowN n d * d) * (m * lowD m e) := by simp only [Int.mul_assoc, Int.mul_comm, Int.mul_left_comm]
      _ = (n * lowD n d) * (lowN m e * e) := by rw [c1, c2]
      _ = n * e * (lowD n d * lowN m e) := by simp only [Int.mul_assoc, Int.mul_comm, Int.mul_left_comm])
  rw [z.1, z.2] at f4
  exact f4
end
end K0
namespace K0
open PySem PySem.Spec PyProof.Rows L2 He HX KF
section
variable {P : Program} {w : World} {K : PySem.W.Frag} {mg : Str → Option Value} {base : Heap}
def NN__law_draw : List PySem.Str := ["pool", "many", "cell"]
theorem sc__law_draw : FnScope NN__law_draw ["pool", "many"] (defScope (top 52)) := ⟨rfl, rfl, rfl, by decide +kernel, rfl, by decide +kernel, by decide +kernel⟩
theorem ok__law_draw (h : HK K mg) : Cal P w K mg base 1 "_law_draw" ["pool", "many"] (sp__law_draw K) := by
  have F : FunD K "_law_draw" "_law_draw" (defArgs (top 52)) (defBody (top 52)) (defScope (top 52)) [] [] (ga K "_law_draw") (fdA K (ga K "_law_draw")) := h.says.funD 28
  have G : FnOk P w K mg base (L2.CX P w) (0 + 1) (ga K "_law_draw") (fdA K (ga K "_law_draw")) ["pool", "many"] (sp__law_draw K) := okX F sc__law_draw (fun vs H Q E hs => by (repeat (obtain ⟨_, hs⟩ := hs)) <;> subst_vars <;> rfl) (fun cdv A outer s H vs Q E hr hs => ?_)
  · exact ⟨G, h.glo _, F.kp, F.bindsN (fun _ _ _ _ _ _ us hl => match us, hl with | [_, _], _ => rfl)⟩
  refine ⟨_, (pss_cons (ps_set (i := 2) sc__law_draw.nd rfl (by first | exact Or.inl rfl | exact Or.inr rfl) (pe_ix ix_list (pv 0) pe_int (fun _ _ => rfl)))
      (pss_cons (ps_if (PW.pt (pw_and (pt_cmpR op_lt (pv 2) (pv 1) (nomark _)) (pw_and1 (pt_cmpR op_gt (pe_callB call_len_seq (by rfl) (h.free "len") (by decide +kernel) (pa_cons (pv 0) pa_nil)) pe_int (nomark _)))))
        (pss_one (ps_expr (pe_bm PySem.F.plainAttrs_list PySem.F.slot_list_pop PySem.F.type_list_pop mt_popAt (pv 0) (pa_cons pe_int pa_nil))))
        (pss_one (ps_asg (pe_op op_fdivX (pv 2) (pv 1)) (pg_sub (pv 0) pe_int set_list))))
      (pss_one (ps_ret (pe_op op_modN (pe_callTy call_int1 (by rfl) (h.free "int") (by decide +kernel) (pa_cons (pv 2) pa_nil)) (pv 1)))))), ?_⟩
  obtain ⟨p, m, rfl, ⟨xs, hp, hne, hl⟩, pm, bm, hq⟩ := hs
  obtain ⟨c, xs', rfl⟩ : ∃ c l, xs = c :: l := by
    cases xs with
    | nil => exact absurd rfl hne
    | cons c l => exact ⟨c, l, rfl⟩
  have hm0 : m ≠ 0 := by omega
  have fin : ∀ (H' : Hp) (ys : List Int), (∀ b o, b ≠ p → H b = some o → H' b = some o) → H' p = some (.lst (ys.map V.int)) → ys ≠ [] → ys.length ≤ 64 → Q (.int (c.fmod m)) H' := fun H' ys h1 h2 h3 h4 =>
    hq H' _ ⟨h1, ys, h2, h3, h4⟩ (fmod_rng pm).1 (fmod_rng pm).2
  have ue : ∀ (o : HO) (b : Addr) (u : HO), b ≠ p → H b = some u → (upd H p o) b = some u := fun o b u n q => by
    rw [upd_ne n]
    exact q
  have setw : ∃ j, ixN ((c :: xs').map V.int).length 0 = some j ∧ ((c :: xs').map V.int).set j (V.int (c.fdiv m)) = (c.fdiv m :: xs').map V.int := ⟨0, by simp [ixN], rfl⟩
  obtain ⟨j, j1, j2⟩ := setw
  refine ⟨_, rfl, p, _, _, .int c, rfl, rfl, SqL.of hp, atI_nat (j := 0) rfl, ?_⟩
  refine ⟨_, rfl, _, rfl, _, _, rfl, rfl, _, rfl, ite2 (fun c1 => ?_) (fun c1 => ?_)⟩
  · refine ⟨_, rfl, p, _, rfl, .inl (SqL.of hp), _, _, rfl, rfl, _, rfl, ite2 (fun c2 => ?_) (fun c2 => ?_)⟩
    · refine ⟨_, rfl, .inl ⟨rfl, _, SqL.of hp⟩, p, _, 0, 0, .int c, rfl, rfl, hp, by decide, by decide, by simp [seqIndex?], rfl, ?_⟩
      refine ⟨_, rfl, .inl ⟨_, rfl, _, rfl, _, _, rfl, rfl, hm0, ?_⟩⟩
      refine fin _ xs' (ue _) upd_same (fun z => ?_) (by simp at hl; omega)
      subst z
      simp at c2
    · refine ⟨_, rfl, _, rfl, _, _, rfl, rfl, bm.divX hm0, _, rfl, p, _, _, j, rfl, rfl, hp, j1, ?_⟩
      rw [j2]
      exact ⟨_, rfl, .inl ⟨_, rfl, _, rfl, _, _, rfl, rfl, hm0, fin _ (c.fdiv m :: xs') (ue _) upd_same (by simp) (by simpa using hl)⟩⟩
  · refine ⟨_, rfl, _, rfl, _, _, rfl, rfl, bm.divX hm0, _, rfl, p, _, _, j, rfl, rfl, hp, j1, ?_⟩
    rw [j2]
    exact ⟨_, rfl, .inl ⟨_, rfl, _, rfl, _, _, rfl, rfl, hm0, fin _ (c.fdiv m :: xs') (ue _) upd_same (by simp) (by simpa using hl)⟩⟩
end
end K0
namespace K0
open PySem PySem.Spec PyProof.Rows L2 He HX KF
theorem ErrAt.same {K : PySem.W.Frag} {H H' : Hp} {a : Addr} {x : Str} {fs : List (Str × V)} (s : Same H H') (e : ErrAt K H a x fs) : ErrAt K H' a x fs := by
  obtain ⟨hx, d, he, h0, hd⟩ := e
  exact ⟨hx, d, he.mono s, h0, fun dd z => (hd dd z).mono s⟩
def ErrAll (K : PySem.W.Frag) (H : Hp) (vs : List V) : Prop := ∀ v ∈ vs, ∃ a x fs, v = .ref a ∧ ErrAt K H a x fs
theorem ErrAll.same {K : PySem.W.Frag} {H H' : Hp} {vs : List V} (s : Same H H') (e : ErrAll K H vs) : ErrAll K H' vs := fun v hv => by
  obtain ⟨a, x, fs, e1, e2⟩ := e v hv
  exact ⟨a, x, fs, e1, e2.same s⟩
theorem ErrAll.one {K : PySem.W.Frag} {H : Hp} {a : Addr} {x : Str} {fs : List (Str × V)} (e : ErrAt K H a x fs) : ErrAll K H [.ref a] := fun v hv => ⟨a, x, fs, List.mem_singleton.mp hv, e⟩
theorem ErrAll.app {K : PySem.W.Frag} {H : Hp} {us vs : List V} (d : ErrAll K H us) (e : ErrAll K H vs) : ErrAll K H (us ++ vs) := fun v hv => (List.mem_append.mp hv).elim (d v) (e v)
theorem ErrAll.snoc {K : PySem.W.Frag} {H : Hp} {us : List V} {a : Addr} {x : Str} {fs : List (Str × V)} (d : ErrAll K H us) (e : ErrAt K H a x fs) : ErrAll K H (us ++ [.ref a]) := d.app (.one e)
def TupAll (K : PySem.W.Frag) (xs : List V) (H : Hp) (vs : List V) : Prop := ∀ v ∈ vs, ∃ a, v = .ref a ∧ SqT K H a xs
theorem TupAll.same {K : PySem.W.Frag} {xs : List V} {H H' : Hp} {vs : List V} (s : Same H H') (e : TupAll K xs H vs) : TupAll K xs H' vs := fun v hv => by
  obtain ⟨a, e1, e2⟩ := e v hv
  exact ⟨a, e1, s.tup e2⟩
theorem TupAll.one {K : PySem.W.Frag} {xs : List V} {H : Hp} {a : Addr} (e : SqT K H a xs) : TupAll K xs H [.ref a] := fun v hv => ⟨a, List.mem_singleton.mp hv, e⟩
theorem TupAll.app {K : PySem.W.Frag} {xs : List V} {H : Hp} {us vs : List V} (d : TupAll K xs H us) (e : TupAll K xs H vs) : TupAll K xs H (us ++ vs) := fun v hv => (List.mem_append.mp hv).elim (d v) (e v)
theorem TupAll.snoc {K : PySem.W.Frag} {xs : List V} {H : Hp} {us : List V} {a : Addr} (d : TupAll K xs H us) (e : SqT K H a xs) : TupAll K xs H (us ++ [.ref a]) := d.app (.one e)
theorem CpIn.upd_ {K : PySem.W.Frag} {H : Hp} {v : V} {c : CpD} {a : Addr} {o : HO} (na : H a = none) (h : CpIn K H v c) : CpIn K (upd H a o) v c := by
  cases c with
  | i n => exact h
  | t ns =>
    obtain ⟨b, h1, h2, h3⟩ := h
    exact ⟨b, h1, h2, (same_upd na).tup h3⟩
  | l ns =>
    obtain ⟨b, h1, h2, h3⟩ := h
    exact ⟨b, h1, h2, (same_upd na).seq h3⟩
theorem errMk {K : PySem.W.Frag} {H : Hp} {a dx : Addr} {x : Str} {fs : List (Str × V)} (hx : x ∈ errN) (ha : H a = some (exo a (ga K x) (some dx))) (hd : H dx = some (exd dx fs)) : ErrAt K H a x fs :=
  ⟨hx, some dx, exAt_exo ha, (fun q => nomatch q), fun dd q => by
    cases q
    exact .inr hd⟩
theorem errMk0 {K : PySem.W.Frag} {H : Hp} {a : Addr} {x : Str} (hx : x ∈ errN) : ErrAt K (upd H a (exo a (ga K x) none)) a x [] := ⟨hx, none, exAt_exo upd_same, (fun _ => rfl), fun dd q => nomatch q⟩
theorem upd_at {H : Hp} {a : Addr} {o : HO} (_ : H a = none) : upd H a o a = some o := upd_same
theorem errMk0' {K : PySem.W.Frag} {H : Hp} {a : Addr} {x : Str} (_ : H a = none) (hx : x ∈ errN) : ErrAt K (upd H a (exo a (ga K x) none)) a x [] := errMk0 hx
theorem dpRep {K : PySem.W.Frag} {H : Hp} {v : V} {d : PyData} (h : Dp K H v d) : ∀ n, DpAll K H (List.replicate n v) (List.replicate n d)
  | 0 => .nil
  | n + 1 => .cons h (dpRep h n)
theorem dpTups {K : PySem.W.Frag} {H : Hp} {i j : Int} : ∀ {vs : List V}, TupAll K [.int i, .int j] H vs → DpAll K H vs (List.replicate vs.length (.tuple [.int i, .int j]))
  | [], _ => .nil
  | v :: vs, h => by
    obtain ⟨a, rfl, ha⟩ := h v List.mem_cons_self
    exact .cons (.tup ha (.cons (.int i) (.cons (.int j) .nil))) (dpTups fun w hw => h w (List.mem_cons_of_mem _ hw))
theorem ix_lt {α : Type} {l : List α} {i : Nat} {x : α} (h : l[i]? = some x) : i < l.length := by
  obtain ⟨q, _⟩ := List.getElem?_eq_some_iff.mp h
  exact q
section
variable {P : Program} {w : World} {K : PySem.W.Frag} {mg : Str → Option Value} {base : Heap}
def NN__law_errors : List PySem.Str := ["first", "second", "word", "row", "all_of", "e", "told", "x", "given", "lot"]
theorem sc__law_errors : FnScope NN__law_errors ["first", "second", "word"] (defScope (top 76)) := ⟨rfl, rfl, rfl, by decide +kernel, rfl, by decide +kernel, by decide +kernel⟩
theorem ok__law_errors (h : HK K mg) (x_BadCount : CalX P w K mg base 1 "BadCount" ps_X_BadCount (sp_X_BadCount K)) (x_BadLot : CalX P w K mg base 3 "BadLot" ps_X_BadLot (sp_X_BadLot K)) (x_BadName : CalX P w K mg base 1 "BadName" ps_X_BadName (sp_X_BadName K)) (x_BadPlace : CalX P w K mg base 3 "BadPlace" ps_X_BadPlace (sp_X_BadPlace K)) (x_BadSign : CalX P w K mg base 1 "BadSign" ps_X_BadSign (sp_X_BadSign K)) (x_BadSize : CalX P w K mg base 1 "BadSize" ps_X_BadSize (sp_X_BadSize K)) (x_BadSizes : CalX P w K mg base 1 "BadSizes" ps_X_BadSizes (sp_X_BadSizes K)) (x_BadText : CalX P w K mg base 1 "BadText" ps_X_BadText (sp_X_BadText K)) (x_BadTie : CalX P w K mg base 1 "BadTie" ps_X_BadTie (sp_X_BadTie K)) (x_BadWeight : CalX P w K mg base 1 "BadWeight" ps_X_BadWeight (sp_X_BadWeight K)) (x_Barred : CalX P w K mg base 3 "Barred" ps_X_Barred (sp_X_Barred K)) (x_DivisionByZero : CalX P w K mg base 1 "DivisionByZero" ps_X_DivisionByZero (sp_X_DivisionByZero K)) (x_Ended : CalX P w K mg base 1 "Ended" ps_X_Ended (sp_X_Ended K)) (x_Flat : CalX P w K mg base 3 "Flat" ps_X_Flat (sp_X_Flat K)) (x_Loose : CalX P w K mg base 3 "Loose" ps_X_Loose (sp_X_Loose K)) (x_Mismatch : CalX P w K mg base 1 "Mismatch" ps_X_Mismatch (sp_X_Mismatch K)) (x_NoBall : CalX P w K mg base 1 "NoBall" ps_X_NoBall (sp_X_NoBall K)) (x_NoDeed : CalX P w K mg base 1 "NoDeed" ps_X_NoDeed (sp_X_NoDeed K)) (x_NoMirror : CalX P w K mg base 3 "NoMirror" ps_X_NoMirror (sp_X_NoMirror K)) (x_NotEven : CalX P w K mg base 3 "NotEven" ps_X_NotEven (sp_X_NotEven K)) (x_NotPerfect : CalX P w K mg base 1 "NotPerfect" ps_X_NotPerfect (sp_X_NotPerfect K)) (x_NotPositive : CalX P w K mg base 3 "NotPositive" ps_X_NotPositive (sp_X_NotPositive K)) (x_NotSymmetric : CalX P w K mg base 1 "NotSymmetric" ps_X_NotSymmetric (sp_X_NotSymmetric K)) (x_NotUnit : CalX P w K mg base 1 "NotUnit" ps_X_NotUnit (sp_X_NotUnit K)) (x_NotWhole : CalX P w K mg base 1 "NotWhole" ps_X_NotWhole (sp_X_NotWhole K)) (x_NothingToRedo : CalX P w K mg base 1 "NothingToRedo" ps_X_NothingToRedo (sp_X_NothingToRedo K)) (x_NothingToUndo : CalX P w K mg base 1 "NothingToUndo" ps_X_NothingToUndo (sp_X_NothingToUndo K)) (x_Singular : CalX P w K mg base 3 "Singular" ps_X_Singular (sp_X_Singular K)) (x_Stopped : CalX P w K mg base 1 "Stopped" ps_X_Stopped (sp_X_Stopped K)) (x_TooLarge : CalX P w K mg base 1 "TooLarge" ps_X_TooLarge (sp_X_TooLarge K)) (x_TooMany : CalX P w K mg base 1 "TooMany" ps_X_TooMany (sp_X_TooMany K)) (x_ZeroRow : CalX P w K mg base 1 "ZeroRow" ps_X_ZeroRow (sp_X_ZeroRow K)) (c__law_kinds : Cal P w K mg base 1 "_law_kinds" ["e"] (sp__law_kinds K)) (c__law_ours : CalW P w K mg base 1 "_law_ours" ["e"] (sp__law_ours K)) : Cal P w K mg base 5 "_law_errors" ["first", "second", "word"] (sp__law_errors K) := by
  have F : FunD K "_law_errors" "_law_errors" (defArgs (top 76)) (defBody (top 76)) (defScope (top 76)) [] [] (ga K "_law_errors") (fdA K (ga K "_law_errors")) := h.says.funD 52
  have G : FnOk P w K mg base (L2.CX P w) (4 + 1) (ga K "_law_errors") (fdA K (ga K "_law_errors")) ["first", "second", "word"] (sp__law_errors K) := okX F sc__law_errors (fun vs H Q E hs => by (repeat (obtain ⟨_, hs⟩ := hs)) <;> subst_vars <;> rfl) (fun cdv A outer s H vs Q E hr hs => ?_)
  · exact ⟨G, h.glo _, F.kp, F.bindsN (fun _ _ _ _ _ _ us hl => match us, hl with | [_, _, _], _ => rfl)⟩
  refine ⟨_, (pss_cons (ps_set (i := 3) sc__law_errors.nd rfl (by first | exact Or.inl rfl | exact Or.inr rfl) (pe_tup (pa_cons (pv 0) (pa_cons (pv 1) pa_nil))))
      (pss_cons (ps_set (i := 4) sc__law_errors.nd rfl (by first | exact Or.inl rfl | exact Or.inr rfl) (pe_lst (pa_cons (pe_calV x_BadCount hr (pa_cons (pv 0) pa_nil)) (pa_cons (pe_calV x_BadLot hr (pa_cons (pv 3) pa_nil)) (pa_cons (pe_calV x_BadName hr (pa_cons (pv 2) pa_nil)) (pa_cons (pe_calV x_BadPlace hr (pa_cons (pv 3) pa_nil)) pa_nil))))))
      (pss_cons (ps_set (i := 4) sc__law_errors.nd rfl (by first | exact Or.inl rfl | exact Or.inr rfl) (pe_op op_cat (pv 4) (pe_lst (pa_cons (pe_calV x_BadSign hr (pa_cons (pv 0) pa_nil)) (pa_cons (pe_calV x_BadSize hr (pa_cons (pv 0) pa_nil)) (pa_cons (pe_calV x_BadSizes hr (pa_cons (pv 0) (pa_cons (pv 1) pa_nil))) pa_nil))))))
      (pss_cons (ps_set (i := 4) sc__law_errors.nd rfl (by first | exact Or.inl rfl | exact Or.inr rfl) (pe_op op_cat (pv 4) (pe_lst (pa_cons (pe_calV x_BadText hr (pa_cons (pv 0) pa_nil)) (pa_cons (pe_calV x_BadTie hr (pa_cons (pv 0) pa_nil)) (pa_cons (pe_calV x_BadWeight hr (pa_cons (pv 0) pa_nil)) pa_nil))))))
      (pss_cons (ps_set (i := 4) sc__law_errors.nd rfl (by first | exact Or.inl rfl | exact Or.inr rfl) (pe_op op_cat (pv 4) (pe_lst (pa_cons (pe_calV x_Barred hr (pa_cons (pv 3) pa_nil)) (pa_cons (pe_calV0 x_DivisionByZero hr) (pa_cons (pe_calV0 x_Ended hr) (pa_cons (pe_calV x_Flat hr (pa_cons (pv 3) pa_nil)) (pa_cons (pe_calV x_Loose hr (pa_cons (pv 3) pa_nil)) pa_nil))))))))
      (pss_cons (ps_set (i := 4) sc__law_errors.nd rfl (by first | exact Or.inl rfl | exact Or.inr rfl) (pe_op op_cat (pv 4) (pe_lst (pa_cons (pe_calV0 x_Mismatch hr) (pa_cons (pe_calV0 x_NoBall hr) (pa_cons (pe_calV x_NoDeed hr (pa_cons (pv 2) pa_nil)) (pa_cons (pe_calV x_NoMirror hr (pa_cons (pv 3) pa_nil)) pa_nil)))))))
      (pss_cons (ps_set (i := 4) sc__law_errors.nd rfl (by first | exact Or.inl rfl | exact Or.inr rfl) (pe_op op_cat (pv 4) (pe_lst (pa_cons (pe_calV x_NotEven hr (pa_cons (pv 0) pa_nil)) (pa_cons (pe_calV0 x_NotPerfect hr) (pa_cons (pe_calV0 x_NothingToRedo hr) (pa_cons (pe_calV0 x_NothingToUndo hr) pa_nil)))))))
      (pss_cons (ps_set (i := 4) sc__law_errors.nd rfl (by first | exact Or.inl rfl | exact Or.inr rfl) (pe_op op_cat (pv 4) (pe_lst (pa_cons (pe_calV x_NotPositive hr (pa_cons (pv 3) pa_nil)) (pa_cons (pe_calV x_NotSymmetric hr (pa_cons (pv 0) (pa_cons (pv 1) pa_nil))) pa_nil)))))
      (pss_cons (ps_set (i := 4) sc__law_errors.nd rfl (by first | exact Or.inl rfl | exact Or.inr rfl) (pe_op op_cat (pv 4) (pe_lst (pa_cons (pe_calV x_NotUnit hr (pa_cons (pv 0) pa_nil)) (pa_cons (pe_calV x_NotWhole hr (pa_cons (pv 0) (pa_cons (pv 1) pa_nil))) (pa_cons (pe_calV x_Singular hr (pa_cons (pv 3) pa_nil)) pa_nil))))))
      (pss_cons (ps_set (i := 4) sc__law_errors.nd rfl (by first | exact Or.inl rfl | exact Or.inr rfl) (pe_op op_cat (pv 4) (pe_lst (pa_cons (pe_calV x_Stopped hr (pa_cons (pv 0) pa_nil)) (pa_cons (pe_calV x_TooLarge hr (pa_cons (pv 0) pa_nil)) (pa_cons (pe_calV x_TooMany hr (pa_cons (pv 0) pa_nil)) (pa_cons (pe_calV0 x_ZeroRow hr) pa_nil)))))))
      (pss_cons (ps_for (passes_of rfl) (by rfl) (pi_list (pv 4)) (pg_name (i := 5) sc__law_errors.nd rfl (by first | exact Or.inl rfl | exact Or.inr rfl))
        (pss_one (ps_if (PW.pt (pw_or (pt_not (pt_val (pe_cal c__law_ours.cal hr passL (pa_cons (pv 5) pa_nil)))) (pw_or1 (pt_cmpR op_ne (pe_cal c__law_kinds hr passL (pa_cons (pv 5) pa_nil)) pe_int (nomark _)))))
          (pss_one (ps_ret pe_bl))
          pss_nil)))
      (pss_cons (ps_set (i := 6) sc__law_errors.nd rfl (by first | exact Or.inl rfl | exact Or.inr rfl) (pe_lst (pa_cons (pe_ef (pe_calV x_BadCount hr (pa_cons (pv 0) pa_nil))) (pa_cons (pe_ef (pe_calV x_BadSign hr (pa_cons (pv 0) pa_nil))) (pa_cons (pe_ef (pe_calV x_BadSize hr (pa_cons (pv 0) pa_nil))) pa_nil)))))
      (pss_cons (ps_set (i := 6) sc__law_errors.nd rfl (by first | exact Or.inl rfl | exact Or.inr rfl) (pe_op op_cat (pv 6) (pe_lst (pa_cons (pe_ef (pe_calV x_BadSizes hr (pa_cons (pv 0) (pa_cons (pv 1) pa_nil)))) (pa_cons (pe_ef (pe_calV x_BadText hr (pa_cons (pv 0) pa_nil))) pa_nil)))))
      (pss_cons (ps_set (i := 6) sc__law_errors.nd rfl (by first | exact Or.inl rfl | exact Or.inr rfl) (pe_op op_cat (pv 6) (pe_lst (pa_cons (pe_ef (pe_calV x_BadTie hr (pa_cons (pv 0) pa_nil))) (pa_cons (pe_ef (pe_calV x_BadWeight hr (pa_cons (pv 0) pa_nil))) (pa_cons (pe_ef (pe_calV x_NotEven hr (pa_cons (pv 0) pa_nil))) pa_nil))))))
      (pss_cons (ps_set (i := 6) sc__law_errors.nd rfl (by first | exact Or.inl rfl | exact Or.inr rfl) (pe_op op_cat (pv 6) (pe_lst (pa_cons (pe_ef (pe_calV x_NotSymmetric hr (pa_cons (pv 0) (pa_cons (pv 1) pa_nil)))) (pa_cons (pe_ef (pe_calV x_NotUnit hr (pa_cons (pv 0) pa_nil))) pa_nil)))))
      (pss_cons (ps_set (i := 6) sc__law_errors.nd rfl (by first | exact Or.inl rfl | exact Or.inr rfl) (pe_op op_cat (pv 6) (pe_lst (pa_cons (pe_ef (pe_calV x_NotWhole hr (pa_cons (pv 0) (pa_cons (pv 1) pa_nil)))) (pa_cons (pe_ef (pe_calV x_Stopped hr (pa_cons (pv 0) pa_nil))) pa_nil)))))
      (pss_cons (ps_set (i := 6) sc__law_errors.nd rfl (by first | exact Or.inl rfl | exact Or.inr rfl) (pe_op op_cat (pv 6) (pe_lst (pa_cons (pe_ef (pe_calV x_TooLarge hr (pa_cons (pv 0) pa_nil))) (pa_cons (pe_ef (pe_calV x_TooMany hr (pa_cons (pv 0) pa_nil))) (pa_cons (pe_ef (pe_calV x_BadPlace hr (pa_cons (pv 0) pa_nil))) pa_nil))))))
      (pss_cons (ps_if (pt_cmpR (op_neD hr.units) (pv 6) (pe_lc (own := [("x", 7)]) (g := gName 7) (by rfl) sc__law_errors.nd (pi_list (pv 6)) (blkOk_by (own := [("x", 7)]) (N := NN__law_errors) (sc := defScope (top 76)) (by decide +kernel)) (fun _ _ _ _ _ => pg_name (i := 7) sc__law_errors.nd rfl (Or.inl rfl)) (fun _ _ _ _ _ => pts_nil) (fun _ _ _ _ _ => (pv 0))) (nomark _))
        (pss_one (ps_ret pe_bl))
        pss_nil)
      (pss_cons (ps_set (i := 6) sc__law_errors.nd rfl (by first | exact Or.inl rfl | exact Or.inr rfl) (pe_lst (pa_cons (pe_ef (pe_calV x_BadLot hr (pa_cons (pv 3) pa_nil))) (pa_cons (pe_ef (pe_calV x_BadPlace hr (pa_cons (pv 3) pa_nil))) (pa_cons (pe_ef (pe_calV x_Barred hr (pa_cons (pv 3) pa_nil))) pa_nil)))))
      (pss_cons (ps_set (i := 6) sc__law_errors.nd rfl (by first | exact Or.inl rfl | exact Or.inr rfl) (pe_op op_cat (pv 6) (pe_lst (pa_cons (pe_ef (pe_calV x_Flat hr (pa_cons (pv 3) pa_nil))) (pa_cons (pe_ef (pe_calV x_Loose hr (pa_cons (pv 3) pa_nil))) (pa_cons (pe_ef (pe_calV x_NoMirror hr (pa_cons (pv 3) pa_nil))) pa_nil))))))
      (pss_cons (ps_set (i := 6) sc__law_errors.nd rfl (by first | exact Or.inl rfl | exact Or.inr rfl) (pe_op op_cat (pv 6) (pe_lst (pa_cons (pe_ef (pe_calV x_NotPositive hr (pa_cons (pv 3) pa_nil))) (pa_cons (pe_ef (pe_calV x_Singular hr (pa_cons (pv 3) pa_nil))) pa_nil)))))
      (pss_cons (ps_if (pt_cmpR (op_neD hr.units) (pv 6) (pe_lc (own := [("x", 7)]) (g := gName 7) (by rfl) sc__law_errors.nd (pi_list (pv 6)) (blkOk_by (own := [("x", 7)]) (N := NN__law_errors) (sc := defScope (top 76)) (by decide +kernel)) (fun _ _ _ _ _ => pg_name (i := 7) sc__law_errors.nd rfl (Or.inl rfl)) (fun _ _ _ _ _ => pts_nil) (fun _ _ _ _ _ => (pv 3))) (nomark _))
        (pss_one (ps_ret pe_bl))
        pss_nil)
      (pss_cons (ps_set (i := 6) sc__law_errors.nd rfl (by first | exact Or.inl rfl | exact Or.inr rfl) (pe_lst (pa_cons (pe_ef (pe_calV x_BadSizes hr (pa_cons (pv 0) (pa_cons (pv 1) pa_nil)))) (pa_cons (pe_ef (pe_calV x_NotSymmetric hr (pa_cons (pv 0) (pa_cons (pv 1) pa_nil)))) pa_nil))))
      (pss_cons (ps_if (PW.pt (pw_or (pt_cmpR (op_neD hr.units) (pv 6) (pe_lst (pa_cons (pv 1) (pa_cons (pv 1) pa_nil))) (nomark _)) (pw_or1 (pt_cmpR op_ne (pe_ef (pe_calV x_NotWhole hr (pa_cons (pv 0) (pa_cons (pv 1) pa_nil)))) (pv 1) (nomark _)))))
        (pss_one (ps_ret pe_bl))
        pss_nil)
      (pss_cons (ps_if (PW.pt (pw_or (pt_cmpR op_ne (pe_ef (pe_calV x_BadName hr (pa_cons (pv 2) pa_nil))) (pv 2) (nomark _)) (pw_or1 (pt_cmpR op_ne (pe_ef (pe_calV x_NoDeed hr (pa_cons (pv 2) pa_nil))) (pv 2) (nomark _)))))
        (pss_one (ps_ret pe_bl))
        pss_nil)
      (pss_cons (ps_set (i := 8) sc__law_errors.nd rfl (by first | exact Or.inl rfl | exact Or.inr rfl) (pe_lst (pa_cons (pv 0) (pa_cons (pv 1) pa_nil))))
      (pss_cons (ps_set (i := 9) sc__law_errors.nd rfl (by first | exact Or.inl rfl | exact Or.inr rfl) (pe_calV x_BadLot hr (pa_cons (pv 8) pa_nil)))
      (pss_cons (ps_expr (pe_bm PySem.F.plainAttrs_list PySem.F.slot_list_append PySem.F.type_list_append mt_append (pv 8) (pa_cons pe_int pa_nil)))
      (pss_one (ps_ret (pe_cmpR (op_eqD hr.units) (pe_callTy call_list_of (by rfl) (h.free "list") (by decide +kernel) (pa_cons (pe_ef (pv 9)) pa_nil)) (pe_lst (pa_cons (pv 0) (pa_cons (pv 1) pa_nil))) (nomark _)))))))))))))))))))))))))))))))), ?_⟩
  obtain ⟨i, j, z, rfl, hz, hq⟩ := hs
  refine ⟨_, rfl, _, rfl, two_size, fun row hr0 => ?_⟩
  have S := same_upd (o := .tup [.int i, .int j]) hr0
  have hrow : SqT K (upd H row (.tup [.int i, .int j])) row [.int i, .int j] := SqT.of upd_same
  refine ⟨_, rfl, (show 1 ≤ 1000 by decide), fun a1 na1 => ⟨a1, _, rfl, upd_same, fun H1 dx1 but1 ha1 nd1 ne1 hd1 => ⟨rfl, ?_⟩⟩⟩
  have s1 := same_but na1 but1
  have E1 := errMk (K := K) (x := "BadCount") (by decide +kernel) ha1 hd1
  replace S := S.trans s1
  replace hrow := s1.tup hrow
  have A := ErrAll.one E1
  clear s1
  refine ⟨_, rfl, (show 1 ≤ 1000 by decide), fun a2 na2 => ⟨a2, _, .t [i, j], rfl, upd_same, CpIn.upd_ na2 ⟨row, rfl, (show 2 ≤ 100 by decide), hrow⟩, fun H2 dx2 y2 but2 ha2 nd2 ne2 hd2 cp2 => ?_⟩⟩
  obtain ⟨q2, rfl, hq2⟩ := cp2
  refine ⟨rfl, ?_⟩
  have s2 := same_but na2 but2
  have E2 := errMk (K := K) (x := "BadLot") (by decide +kernel) ha2 hd2
  replace S := S.trans s2
  replace hrow := s2.tup hrow
  replace A := (A.same s2).snoc E2
  clear s2
  refine ⟨_, rfl, (show 1 ≤ 1000 by decide), fun a3 na3 => ⟨a3, _, rfl, upd_same, fun H3 dx3 but3 ha3 nd3 ne3 hd3 => ⟨rfl, ?_⟩⟩⟩
  have s3 := same_but na3 but3
  have E3 := errMk (K := K) (x := "BadName") (by decide +kernel) ha3 hd3
  replace S := S.trans s3
  replace hrow := s3.tup hrow
  replace A := (A.same s3).snoc E3
  clear s3
  refine ⟨_, rfl, (show 1 ≤ 1000 by decide), fun a4 na4 => ⟨a4, _, .t [i, j], rfl, upd_same, CpIn.upd_ na4 ⟨row, rfl, (show 2 ≤ 100 by decide), hrow⟩, fun H4 dx4 y4 but4 ha4 nd4 ne4 hd4 cp4 => ?_⟩⟩
  obtain ⟨q4, rfl, hq4⟩ := cp4
  refine ⟨rfl, ?_⟩
  have s4 := same_but na4 but4
  have E4 := errMk (K := K) (x := "BadPlace") (by decide +kernel) ha4 hd4
  replace S := S.trans s4
  replace hrow := s4.tup hrow
  replace A := (A.same s4).snoc E4
  clear s4
  refine ⟨small_size (show 4 ≤ 1000 by decide), fun l5 nl5 => ?_⟩
  have s5 := same_upd (o := .lst [V.ref a1, V.ref a2, V.ref a3, V.ref a4]) nl5
  have hT := upd_at (o := .lst [V.ref a1, V.ref a2, V.ref a3, V.ref a4]) nl5
  have T := A.same s5
  replace S := S.trans s5
  replace hrow := s5.tup hrow
  clear s5
  clear A
  refine ⟨_, rfl, ?_⟩
  refine ⟨_, rfl, (show 1 ≤ 1000 by decide), fun a6 na6 => ⟨a6, _, rfl, upd_same, fun H6 dx6 but6 ha6 nd6 ne6 hd6 => ⟨rfl, ?_⟩⟩⟩
  have s6 := same_but na6 but6
  have E6 := errMk (K := K) (x := "BadSign") (by decide +kernel) ha6 hd6
  replace S := S.trans s6
  replace hrow := s6.tup hrow
  have A := ErrAll.one E6
  replace T := T.same s6
  replace hT := s6 _ _ hT
  clear s6
  refine ⟨_, rfl, (show 1 ≤ 1000 by decide), fun a7 na7 => ⟨a7, _, rfl, upd_same, fun H7 dx7 but7 ha7 nd7 ne7 hd7 => ⟨rfl, ?_⟩⟩⟩
  have s7 := same_but na7 but7
  have E7 := errMk (K := K) (x := "BadSize") (by decide +kernel) ha7 hd7
  replace S := S.trans s7
  replace hrow := s7.tup hrow
  replace A := (A.same s7).snoc E7
  replace T := T.same s7
  replace hT := s7 _ _ hT
  clear s7
  refine ⟨_, rfl, _, rfl, (show 2 ≤ 1000 by decide), fun a8 na8 => ⟨a8, _, _, rfl, upd_same, fun H8 dx8 but8 ha8 nd8 ne8 hd8 => ⟨rfl, ?_⟩⟩⟩
  have s8 := same_but na8 but8
  have E8 := errMk (K := K) (x := "BadSizes") (by decide +kernel) ha8 hd8
  replace S := S.trans s8
  replace hrow := s8.tup hrow
  replace A := (A.same s8).snoc E8
  replace T := T.same s8
  replace hT := s8 _ _ hT
  clear s8
  refine ⟨small_size (show 3 ≤ 1000 by decide), fun l9 nl9 => ?_⟩
  have s9 := same_upd (o := .lst [V.ref a6, V.ref a7, V.ref a8]) nl9
  refine ⟨_, l9, _, _, rfl, rfl, s9 _ _ hT, upd_same, small_size (by simp), fun l9b nl9b => ?_⟩
  replace s9 := s9.trans (same_upd (o := .lst ([V.ref a1, V.ref a2, V.ref a3, V.ref a4] ++ [V.ref a6, V.ref a7, V.ref a8])) nl9b)
  replace hT := upd_at (o := .lst ([V.ref a1, V.ref a2, V.ref a3, V.ref a4] ++ [V.ref a6, V.ref a7, V.ref a8])) nl9b
  replace T := (T.same s9).app (A.same s9)
  clear A
  replace S := S.trans s9
  replace hrow := s9.tup hrow
  clear s9
  refine ⟨_, rfl, ?_⟩
  refine ⟨_, rfl, (show 1 ≤ 1000 by decide), fun a10 na10 => ⟨a10, _, rfl, upd_same, fun H10 dx10 but10 ha10 nd10 ne10 hd10 => ⟨rfl, ?_⟩⟩⟩
  have s10 := same_but na10 but10
  have E10 := errMk (K := K) (x := "BadText") (by decide +kernel) ha10 hd10
  replace S := S.trans s10
  replace hrow := s10.tup hrow
  have A := ErrAll.one E10
  replace T := T.same s10
  replace hT := s10 _ _ hT
  clear s10
  refine ⟨_, rfl, (show 1 ≤ 1000 by decide), fun a11 na11 => ⟨a11, _, rfl, upd_same, fun H11 dx11 but11 ha11 nd11 ne11 hd11 => ⟨rfl, ?_⟩⟩⟩
  have s11 := same_but na11 but11
  have E11 := errMk (K := K) (x := "BadTie") (by decide +kernel) ha11 hd11
  replace S := S.trans s11
  replace hrow := s11.tup hrow
  replace A := (A.same s11).snoc E11
  replace T := T.same s11
  replace hT := s11 _ _ hT
  clear s11
  refine ⟨_, rfl, (show 1 ≤ 1000 by decide), fun a12 na12 => ⟨a12, _, rfl, upd_same, fun H12 dx12 but12 ha12 nd12 ne12 hd12 => ⟨rfl, ?_⟩⟩⟩
  have s12 := same_but na12 but12
  have E12 := errMk (K := K) (x := "BadWeight") (by decide +kernel) ha12 hd12
  replace S := S.trans s12
  replace hrow := s12.tup hrow
  replace A := (A.same s12).snoc E12
  replace T := T.same s12
  replace hT := s12 _ _ hT
  clear s12
  refine ⟨small_size (show 3 ≤ 1000 by decide), fun l13 nl13 => ?_⟩
  have s13 := same_upd (o := .lst [V.ref a10, V.ref a11, V.ref a12]) nl13
  refine ⟨_, l13, _, _, rfl, rfl, s13 _ _ hT, upd_same, small_size (by simp), fun l13b nl13b => ?_⟩
  replace s13 := s13.trans (same_upd (o := .lst (([V.ref a1, V.ref a2, V.ref a3, V.ref a4] ++ [V.ref a6, V.ref a7, V.ref a8]) ++ [V.ref a10, V.ref a11, V.ref a12])) nl13b)
  replace hT := upd_at (o := .lst (([V.ref a1, V.ref a2, V.ref a3, V.ref a4] ++ [V.ref a6, V.ref a7, V.ref a8]) ++ [V.ref a10, V.ref a11, V.ref a12])) nl13b
  replace T := (T.same s13).app (A.same s13)
  clear A
  replace S := S.trans s13
  replace hrow := s13.tup hrow
  clear s13
  refine ⟨_, rfl, ?_⟩
  refine ⟨_, rfl, (show 1 ≤ 1000 by decide), fun a14 na14 => ⟨a14, _, .t [i, j], rfl, upd_same, CpIn.upd_ na14 ⟨row, rfl, (show 2 ≤ 100 by decide), hrow⟩, fun H14 dx14 y14 but14 ha14 nd14 ne14 hd14 cp14 => ?_⟩⟩
  obtain ⟨q14, rfl, hq14⟩ := cp14
  refine ⟨rfl, ?_⟩
  have s14 := same_but na14 but14
  have E14 := errMk (K := K) (x := "Barred") (by decide +kernel) ha14 hd14
  replace S := S.trans s14
  replace hrow := s14.tup hrow
  have A := ErrAll.one E14
  replace T := T.same s14
  replace hT := s14 _ _ hT
  clear s14
  refine ⟨Nat.zero_le _, fun a15 na15 => ⟨a15, rfl, upd_same, rfl, ?_⟩⟩
  have s15 := same_upd (o := exo a15 (ga K "DivisionByZero") none) na15
  have E15 := errMk0' (K := K) (x := "DivisionByZero") na15 (by decide +kernel)
  replace S := S.trans s15
  replace hrow := s15.tup hrow
  replace A := (A.same s15).snoc E15
  replace T := T.same s15
  replace hT := s15 _ _ hT
  clear s15
  refine ⟨Nat.zero_le _, fun a16 na16 => ⟨a16, rfl, upd_same, rfl, ?_⟩⟩
  have s16 := same_upd (o := exo a16 (ga K "Ended") none) na16
  have E16 := errMk0' (K := K) (x := "Ended") na16 (by decide +kernel)
  replace S := S.trans s16
  replace hrow := s16.tup hrow
  replace A := (A.same s16).snoc E16
  replace T := T.same s16
  replace hT := s16 _ _ hT
  clear s16
  refine ⟨_, rfl, (show 1 ≤ 1000 by decide), fun a17 na17 => ⟨a17, _, .t [i, j], rfl, upd_same, CpIn.upd_ na17 ⟨row, rfl, (show 2 ≤ 100 by decide), hrow⟩, fun H17 dx17 y17 but17 ha17 nd17 ne17 hd17 cp17 => ?_⟩⟩
  obtain ⟨q17, rfl, hq17⟩ := cp17
  refine ⟨rfl, ?_⟩
  have s17 := same_but na17 but17
  have E17 := errMk (K := K) (x := "Flat") (by decide +kernel) ha17 hd17
  replace S := S.trans s17
  replace hrow := s17.tup hrow
  replace A := (A.same s17).snoc E17
  replace T := T.same s17
  replace hT := s17 _ _ hT
  clear s17
  refine ⟨_, rfl, (show 1 ≤ 1000 by decide), fun a18 na18 => ⟨a18, _, .t [i, j], rfl, upd_same, CpIn.upd_ na18 ⟨row, rfl, (show 2 ≤ 100 by decide), hrow⟩, fun H18 dx18 y18 but18 ha18 nd18 ne18 hd18 cp18 => ?_⟩⟩
  obtain ⟨q18, rfl, hq18⟩ := cp18
  refine ⟨rfl, ?_⟩
  have s18 := same_but na18 but18
  have E18 := errMk (K := K) (x := "Loose") (by decide +kernel) ha18 hd18
  replace S := S.trans s18
  replace hrow := s18.tup hrow
  replace A := (A.same s18).snoc E18
  replace T := T.same s18
  replace hT := s18 _ _ hT
  clear s18
  refine ⟨small_size (show 5 ≤ 1000 by decide), fun l19 nl19 => ?_⟩
  have s19 := same_upd (o := .lst [V.ref a14, V.ref a15, V.ref a16, V.ref a17, V.ref a18]) nl19
  refine ⟨_, l19, _, _, rfl, rfl, s19 _ _ hT, upd_same, small_size (by simp), fun l19b nl19b => ?_⟩
  replace s19 := s19.trans (same_upd (o := .lst ((([V.ref a1, V.ref a2, V.ref a3, V.ref a4] ++ [V.ref a6, V.ref a7, V.ref a8]) ++ [V.ref a10, V.ref a11, V.ref a12]) ++ [V.ref a14, V.ref a15, V.ref a16, V.ref a17, V.ref a18])) nl19b)
  replace hT := upd_at (o := .lst ((([V.ref a1, V.ref a2, V.ref a3, V.ref a4] ++ [V.ref a6, V.ref a7, V.ref a8]) ++ [V.ref a10, V.ref a11, V.ref a12]) ++ [V.ref a14, V.ref a15, V.ref a16, V.ref a17, V.ref a18])) nl19b
  replace T := (T.same s19).app (A.same s19)
  clear A
  replace S := S.trans s19
  replace hrow := s19.tup hrow
  clear s19
  refine ⟨_, rfl, ?_⟩
  refine ⟨Nat.zero_le _, fun a20 na20 => ⟨a20, rfl, upd_same, rfl, ?_⟩⟩
  have s20 := same_upd (o := exo a20 (ga K "Mismatch") none) na20
  have E20 := errMk0' (K := K) (x := "Mismatch") na20 (by decide +kernel)
  replace S := S.trans s20
  replace hrow := s20.tup hrow
  have A := ErrAll.one E20
  replace T := T.same s20
  replace hT := s20 _ _ hT
  clear s20
  refine ⟨Nat.zero_le _, fun a21 na21 => ⟨a21, rfl, upd_same, rfl, ?_⟩⟩
  have s21 := same_upd (o := exo a21 (ga K "NoBall") none) na21
  have E21 := errMk0' (K := K) (x := "NoBall") na21 (by decide +kernel)
  replace S := S.trans s21
  replace hrow := s21.tup hrow
  replace A := (A.same s21).snoc E21
  replace T := T.same s21
  replace hT := s21 _ _ hT
  clear s21
  refine ⟨_, rfl, (show 1 ≤ 1000 by decide), fun a22 na22 => ⟨a22, _, rfl, upd_same, fun H22 dx22 but22 ha22 nd22 ne22 hd22 => ⟨rfl, ?_⟩⟩⟩
  have s22 := same_but na22 but22
  have E22 := errMk (K := K) (x := "NoDeed") (by decide +kernel) ha22 hd22
  replace S := S.trans s22
  replace hrow := s22.tup hrow
  replace A := (A.same s22).snoc E22
  replace T := T.same s22
  replace hT := s22 _ _ hT
  clear s22
  refine ⟨_, rfl, (show 1 ≤ 1000 by decide), fun a23 na23 => ⟨a23, _, .t [i, j], rfl, upd_same, CpIn.upd_ na23 ⟨row, rfl, (show 2 ≤ 100 by decide), hrow⟩, fun H23 dx23 y23 but23 ha23 nd23 ne23 hd23 cp23 => ?_⟩⟩
  obtain ⟨q23, rfl, hq23⟩ := cp23
  refine ⟨rfl, ?_⟩
  have s23 := same_but na23 but23
  have E23 := errMk (K := K) (x := "NoMirror") (by decide +kernel) ha23 hd23
  replace S := S.trans s23
  replace hrow := s23.tup hrow
  replace A := (A.same s23).snoc E23
  replace T := T.same s23
  replace hT := s23 _ _ hT
  clear s23
  refine ⟨small_size (show 4 ≤ 1000 by decide), fun l24 nl24 => ?_⟩
  have s24 := same_upd (o := .lst [V.ref a20, V.ref a21, V.ref a22, V.ref a23]) nl24
  refine ⟨_, l24, _, _, rfl, rfl, s24 _ _ hT, upd_same, small_size (by simp), fun l24b nl24b => ?_⟩
  replace s24 := s24.trans (same_upd (o := .lst (((([V.ref a1, V.ref a2, V.ref a3, V.ref a4] ++ [V.ref a6, V.ref a7, V.ref a8]) ++ [V.ref a10, V.ref a11, V.ref a12]) ++ [V.ref a14, V.ref a15, V.ref a16, V.ref a17, V.ref a18]) ++ [V.ref a20, V.ref a21, V.ref a22, V.ref a23])) nl24b)
  replace hT := upd_at (o := .lst (((([V.ref a1, V.ref a2, V.ref a3, V.ref a4] ++ [V.ref a6, V.ref a7, V.ref a8]) ++ [V.ref a10, V.ref a11, V.ref a12]) ++ [V.ref a14, V.ref a15, V.ref a16, V.ref a17, V.ref a18]) ++ [V.ref a20, V.ref a21, V.ref a22, V.ref a23])) nl24b
  replace T := (T.same s24).app (A.same s24)
  clear A
  replace S := S.trans s24
  replace hrow := s24.tup hrow
  clear s24
  refine ⟨_, rfl, ?_⟩
  refine ⟨_, rfl, (show 1 ≤ 1000 by decide), fun a25 na25 => ⟨a25, _, .i i, rfl, upd_same, rfl, fun H25 dx25 y25 but25 ha25 nd25 ne25 hd25 cp25 => ?_⟩⟩
  cases (show y25 = V.int i from cp25)
  refine ⟨rfl, ?_⟩
  have s25 := same_but na25 but25
  have E25 := errMk (K := K) (x := "NotEven") (by decide +kernel) ha25 hd25
  replace S := S.trans s25
  replace hrow := s25.tup hrow
  have A := ErrAll.one E25
  replace T := T.same s25
  replace hT := s25 _ _ hT
  clear s25
  refine ⟨Nat.zero_le _, fun a26 na26 => ⟨a26, rfl, upd_same, rfl, ?_⟩⟩
  have s26 := same_upd (o := exo a26 (ga K "NotPerfect") none) na26
  have E26 := errMk0' (K := K) (x := "NotPerfect") na26 (by decide +kernel)
  replace S := S.trans s26
  replace hrow := s26.tup hrow
  replace A := (A.same s26).snoc E26
  replace T := T.same s26
  replace hT := s26 _ _ hT
  clear s26
  refine ⟨Nat.zero_le _, fun a27 na27 => ⟨a27, rfl, upd_same, rfl, ?_⟩⟩
  have s27 := same_upd (o := exo a27 (ga K "NothingToRedo") none) na27
  have E27 := errMk0' (K := K) (x := "NothingToRedo") na27 (by decide +kernel)
  replace S := S.trans s27
  replace hrow := s27.tup hrow
  replace A := (A.same s27).snoc E27
  replace T := T.same s27
  replace hT := s27 _ _ hT
  clear s27
  refine ⟨Nat.zero_le _, fun a28 na28 => ⟨a28, rfl, upd_same, rfl, ?_⟩⟩
  have s28 := same_upd (o := exo a28 (ga K "NothingToUndo") none) na28
  have E28 := errMk0' (K := K) (x := "NothingToUndo") na28 (by decide +kernel)
  replace S := S.trans s28
  replace hrow := s28.tup hrow
  replace A := (A.same s28).snoc E28
  replace T := T.same s28
  replace hT := s28 _ _ hT
  clear s28
  refine ⟨small_size (show 4 ≤ 1000 by decide), fun l29 nl29 => ?_⟩
  have s29 := same_upd (o := .lst [V.ref a25, V.ref a26, V.ref a27, V.ref a28]) nl29
  refine ⟨_, l29, _, _, rfl, rfl, s29 _ _ hT, upd_same, small_size (by simp), fun l29b nl29b => ?_⟩
  replace s29 := s29.trans (same_upd (o := .lst ((((([V.ref a1, V.ref a2, V.ref a3, V.ref a4] ++ [V.ref a6, V.ref a7, V.ref a8]) ++ [V.ref a10, V.ref a11, V.ref a12]) ++ [V.ref a14, V.ref a15, V.ref a16, V.ref a17, V.ref a18]) ++ [V.ref a20, V.ref a21, V.ref a22, V.ref a23]) ++ [V.ref a25, V.ref a26, V.ref a27, V.ref a28])) nl29b)
  replace hT := upd_at (o := .lst ((((([V.ref a1, V.ref a2, V.ref a3, V.ref a4] ++ [V.ref a6, V.ref a7, V.ref a8]) ++ [V.ref a10, V.ref a11, V.ref a12]) ++ [V.ref a14, V.ref a15, V.ref a16, V.ref a17, V.ref a18]) ++ [V.ref a20, V.ref a21, V.ref a22, V.ref a23]) ++ [V.ref a25, V.ref a26, V.ref a27, V.ref a28])) nl29b
  replace T := (T.same s29).app (A.same s29)
  clear A
  replace S := S.trans s29
  replace hrow := s29.tup hrow
  clear s29
  refine ⟨_, rfl, ?_⟩
  refine ⟨_, rfl, (show 1 ≤ 1000 by decide), fun a30 na30 => ⟨a30, _, .t [i, j], rfl, upd_same, CpIn.upd_ na30 ⟨row, rfl, (show 2 ≤ 100 by decide), hrow⟩, fun H30 dx30 y30 but30 ha30 nd30 ne30 hd30 cp30 => ?_⟩⟩
  obtain ⟨q30, rfl, hq30⟩ := cp30
  refine ⟨rfl, ?_⟩
  have s30 := same_but na30 but30
  have E30 := errMk (K := K) (x := "NotPositive") (by decide +kernel) ha30 hd30
  replace S := S.trans s30
  replace hrow := s30.tup hrow
  have A := ErrAll.one E30
  replace T := T.same s30
  replace hT := s30 _ _ hT
  clear s30
  refine ⟨_, rfl, _, rfl, (show 2 ≤ 1000 by decide), fun a31 na31 => ⟨a31, _, _, rfl, upd_same, fun H31 dx31 but31 ha31 nd31 ne31 hd31 => ⟨rfl, ?_⟩⟩⟩
  have s31 := same_but na31 but31
  have E31 := errMk (K := K) (x := "NotSymmetric") (by decide +kernel) ha31 hd31
  replace S := S.trans s31
  replace hrow := s31.tup hrow
  replace A := (A.same s31).snoc E31
  replace T := T.same s31
  replace hT := s31 _ _ hT
  clear s31
  refine ⟨small_size (show 2 ≤ 1000 by decide), fun l32 nl32 => ?_⟩
  have s32 := same_upd (o := .lst [V.ref a30, V.ref a31]) nl32
  refine ⟨_, l32, _, _, rfl, rfl, s32 _ _ hT, upd_same, small_size (by simp), fun l32b nl32b => ?_⟩
  replace s32 := s32.trans (same_upd (o := .lst (((((([V.ref a1, V.ref a2, V.ref a3, V.ref a4] ++ [V.ref a6, V.ref a7, V.ref a8]) ++ [V.ref a10, V.ref a11, V.ref a12]) ++ [V.ref a14, V.ref a15, V.ref a16, V.ref a17, V.ref a18]) ++ [V.ref a20, V.ref a21, V.ref a22, V.ref a23]) ++ [V.ref a25, V.ref a26, V.ref a27, V.ref a28]) ++ [V.ref a30, V.ref a31])) nl32b)
  replace hT := upd_at (o := .lst (((((([V.ref a1, V.ref a2, V.ref a3, V.ref a4] ++ [V.ref a6, V.ref a7, V.ref a8]) ++ [V.ref a10, V.ref a11, V.ref a12]) ++ [V.ref a14, V.ref a15, V.ref a16, V.ref a17, V.ref a18]) ++ [V.ref a20, V.ref a21, V.ref a22, V.ref a23]) ++ [V.ref a25, V.ref a26, V.ref a27, V.ref a28]) ++ [V.ref a30, V.ref a31])) nl32b
  replace T := (T.same s32).app (A.same s32)
  clear A
  replace S := S.trans s32
  replace hrow := s32.tup hrow
  clear s32
  refine ⟨_, rfl, ?_⟩
  refine ⟨_, rfl, (show 1 ≤ 1000 by decide), fun a33 na33 => ⟨a33, _, rfl, upd_same, fun H33 dx33 but33 ha33 nd33 ne33 hd33 => ⟨rfl, ?_⟩⟩⟩
  have s33 := same_but na33 but33
  have E33 := errMk (K := K) (x := "NotUnit") (by decide +kernel) ha33 hd33
  replace S := S.trans s33
  replace hrow := s33.tup hrow
  have A := ErrAll.one E33
  replace T := T.same s33
  replace hT := s33 _ _ hT
  clear s33
  refine ⟨_, rfl, _, rfl, (show 2 ≤ 1000 by decide), fun a34 na34 => ⟨a34, _, _, rfl, upd_same, fun H34 dx34 but34 ha34 nd34 ne34 hd34 => ⟨rfl, ?_⟩⟩⟩
  have s34 := same_but na34 but34
  have E34 := errMk (K := K) (x := "NotWhole") (by decide +kernel) ha34 hd34
  replace S := S.trans s34
  replace hrow := s34.tup hrow
  replace A := (A.same s34).snoc E34
  replace T := T.same s34
  replace hT := s34 _ _ hT
  clear s34
  refine ⟨_, rfl, (show 1 ≤ 1000 by decide), fun a35 na35 => ⟨a35, _, .t [i, j], rfl, upd_same, CpIn.upd_ na35 ⟨row, rfl, (show 2 ≤ 100 by decide), hrow⟩, fun H35 dx35 y35 but35 ha35 nd35 ne35 hd35 cp35 => ?_⟩⟩
  obtain ⟨q35, rfl, hq35⟩ := cp35
  refine ⟨rfl, ?_⟩
  have s35 := same_but na35 but35
  have E35 := errMk (K := K) (x := "Singular") (by decide +kernel) ha35 hd35
  replace S := S.trans s35
  replace hrow := s35.tup hrow
  replace A := (A.same s35).snoc E35
  replace T := T.same s35
  replace hT := s35 _ _ hT
  clear s35
  refine ⟨small_size (show 3 ≤ 1000 by decide), fun l36 nl36 => ?_⟩
  have s36 := same_upd (o := .lst [V.ref a33, V.ref a34, V.ref a35]) nl36
  refine ⟨_, l36, _, _, rfl, rfl, s36 _ _ hT, upd_same, small_size (by simp), fun l36b nl36b => ?_⟩
  replace s36 := s36.trans (same_upd (o := .lst ((((((([V.ref a1, V.ref a2, V.ref a3, V.ref a4] ++ [V.ref a6, V.ref a7, V.ref a8]) ++ [V.ref a10, V.ref a11, V.ref a12]) ++ [V.ref a14, V.ref a15, V.ref a16, V.ref a17, V.ref a18]) ++ [V.ref a20, V.ref a21, V.ref a22, V.ref a23]) ++ [V.ref a25, V.ref a26, V.ref a27, V.ref a28]) ++ [V.ref a30, V.ref a31]) ++ [V.ref a33, V.ref a34, V.ref a35])) nl36b)
  replace hT := upd_at (o := .lst ((((((([V.ref a1, V.ref a2, V.ref a3, V.ref a4] ++ [V.ref a6, V.ref a7, V.ref a8]) ++ [V.ref a10, V.ref a11, V.ref a12]) ++ [V.ref a14, V.ref a15, V.ref a16, V.ref a17, V.ref a18]) ++ [V.ref a20, V.ref a21, V.ref a22, V.ref a23]) ++ [V.ref a25, V.ref a26, V.ref a27, V.ref a28]) ++ [V.ref a30, V.ref a31]) ++ [V.ref a33, V.ref a34, V.ref a35])) nl36b
  replace T := (T.same s36).app (A.same s36)
  clear A
  replace S := S.trans s36
  replace hrow := s36.tup hrow
  clear s36
  refine ⟨_, rfl, ?_⟩
  refine ⟨_, rfl, (show 1 ≤ 1000 by decide), fun a37 na37 => ⟨a37, _, rfl, upd_same, fun H37 dx37 but37 ha37 nd37 ne37 hd37 => ⟨rfl, ?_⟩⟩⟩
  have s37 := same_but na37 but37
  have E37 := errMk (K := K) (x := "Stopped") (by decide +kernel) ha37 hd37
  replace S := S.trans s37
  replace hrow := s37.tup hrow
  have A := ErrAll.one E37
  replace T := T.same s37
  replace hT := s37 _ _ hT
  clear s37
  refine ⟨_, rfl, (show 1 ≤ 1000 by decide), fun a38 na38 => ⟨a38, _, rfl, upd_same, fun H38 dx38 but38 ha38 nd38 ne38 hd38 => ⟨rfl, ?_⟩⟩⟩
  have s38 := same_but na38 but38
  have E38 := errMk (K := K) (x := "TooLarge") (by decide +kernel) ha38 hd38
  replace S := S.trans s38
  replace hrow := s38.tup hrow
  replace A := (A.same s38).snoc E38
  replace T := T.same s38
  replace hT := s38 _ _ hT
  clear s38
  refine ⟨_, rfl, (show 1 ≤ 1000 by decide), fun a39 na39 => ⟨a39, _, rfl, upd_same, fun H39 dx39 but39 ha39 nd39 ne39 hd39 => ⟨rfl, ?_⟩⟩⟩
  have s39 := same_but na39 but39
  have E39 := errMk (K := K) (x := "TooMany") (by decide +kernel) ha39 hd39
  replace S := S.trans s39
  replace hrow := s39.tup hrow
  replace A := (A.same s39).snoc E39
  replace T := T.same s39
  replace hT := s39 _ _ hT
  clear s39
  refine ⟨Nat.zero_le _, fun a40 na40 => ⟨a40, rfl, upd_same, rfl, ?_⟩⟩
  have s40 := same_upd (o := exo a40 (ga K "ZeroRow") none) na40
  have E40 := errMk0' (K := K) (x := "ZeroRow") na40 (by decide +kernel)
  replace S := S.trans s40
  replace hrow := s40.tup hrow
  replace A := (A.same s40).snoc E40
  replace T := T.same s40
  replace hT := s40 _ _ hT
  clear s40
  refine ⟨small_size (show 4 ≤ 1000 by decide), fun l41 nl41 => ?_⟩
  have s41 := same_upd (o := .lst [V.ref a37, V.ref a38, V.ref a39, V.ref a40]) nl41
  refine ⟨_, l41, _, _, rfl, rfl, s41 _ _ hT, upd_same, small_size (by simp), fun l41b nl41b => ?_⟩
  replace s41 := s41.trans (same_upd (o := .lst (((((((([V.ref a1, V.ref a2, V.ref a3, V.ref a4] ++ [V.ref a6, V.ref a7, V.ref a8]) ++ [V.ref a10, V.ref a11, V.ref a12]) ++ [V.ref a14, V.ref a15, V.ref a16, V.ref a17, V.ref a18]) ++ [V.ref a20, V.ref a21, V.ref a22, V.ref a23]) ++ [V.ref a25, V.ref a26, V.ref a27, V.ref a28]) ++ [V.ref a30, V.ref a31]) ++ [V.ref a33, V.ref a34, V.ref a35]) ++ [V.ref a37, V.ref a38, V.ref a39, V.ref a40])) nl41b)
  replace hT := upd_at (o := .lst (((((((([V.ref a1, V.ref a2, V.ref a3, V.ref a4] ++ [V.ref a6, V.ref a7, V.ref a8]) ++ [V.ref a10, V.ref a11, V.ref a12]) ++ [V.ref a14, V.ref a15, V.ref a16, V.ref a17, V.ref a18]) ++ [V.ref a20, V.ref a21, V.ref a22, V.ref a23]) ++ [V.ref a25, V.ref a26, V.ref a27, V.ref a28]) ++ [V.ref a30, V.ref a31]) ++ [V.ref a33, V.ref a34, V.ref a35]) ++ [V.ref a37, V.ref a38, V.ref a39, V.ref a40])) nl41b
  replace T := (T.same s41).app (A.same s41)
  clear A
  replace S := S.trans s41
  replace hrow := s41.tup hrow
  clear s41
  refine ⟨_, rfl, l41b, rfl, ⟨_, SqL.of hT⟩, for_list (K := K) (a := l41b) (xs := (((((((([V.ref a1, V.ref a2, V.ref a3, V.ref a4] ++ [V.ref a6, V.ref a7, V.ref a8]) ++ [V.ref a10, V.ref a11, V.ref a12]) ++ [V.ref a14, V.ref a15, V.ref a16, V.ref a17, V.ref a18]) ++ [V.ref a20, V.ref a21, V.ref a22, V.ref a23]) ++ [V.ref a25, V.ref a26, V.ref a27, V.ref a28]) ++ [V.ref a30, V.ref a31]) ++ [V.ref a33, V.ref a34, V.ref a35]) ++ [V.ref a37, V.ref a38, V.ref a39, V.ref a40])) (fun k σ H' => Same _ H' ∧ ∃ r : Option V, σ = [some (.int i), some (.int j), some (.str z), some (.ref row), some (.ref l41b), r, none, none, none, none]) ⟨Same.refl _, _, rfl⟩ ?_ ?_ ?_⟩
  · rintro k σ H' _ ⟨s, _⟩
    exact SqL.of (s _ _ hT)
  · rintro k v σ H' hv ⟨s, r, rfl⟩
    obtain ⟨a, x, fs, rfl, he⟩ := T v (List.mem_of_getElem? hv)
    exact ⟨_, rfl, a, x, fs, rfl, he.same s, _, rfl, iteF ⟨_, rfl, a, x, fs, rfl, he.same s, fun H2 s2 => ⟨rfl, _, rfl, iteNS rfl ⟨s.trans s2, _, rfl⟩⟩⟩⟩
  rintro σ HL ⟨sL, r, rfl⟩
  replace S := S.trans sL
  replace hrow := sL.tup hrow
  clear T hT sL
  refine ⟨_, rfl, (show 1 ≤ 1000 by decide), fun a42 na42 => ⟨a42, _, rfl, upd_same, fun H42 dx42 but42 ha42 nd42 ne42 hd42 => ⟨rfl, a42, _, dx42, _, _, rfl, exAt_exo ha42, .inr hd42, (h.ef "BadCount").erc, h.fld "BadCount" "count", rfl, ?_⟩⟩⟩
  have s42 := same_but na42 but42
  replace S := S.trans s42
  replace hrow := s42.tup hrow
  clear s42
  refine ⟨_, rfl, (show 1 ≤ 1000 by decide), fun a43 na43 => ⟨a43, _, rfl, upd_same, fun H43 dx43 but43 ha43 nd43 ne43 hd43 => ⟨rfl, a43, _, dx43, _, _, rfl, exAt_exo ha43, .inr hd43, (h.ef "BadSign").erc, h.fld "BadSign" "at", rfl, ?_⟩⟩⟩
  have s43 := same_but na43 but43
  replace S := S.trans s43
  replace hrow := s43.tup hrow
  clear s43
  refine ⟨_, rfl, (show 1 ≤ 1000 by decide), fun a44 na44 => ⟨a44, _, rfl, upd_same, fun H44 dx44 but44 ha44 nd44 ne44 hd44 => ⟨rfl, a44, _, dx44, _, _, rfl, exAt_exo ha44, .inr hd44, (h.ef "BadSize").erc, h.fld "BadSize" "size", rfl, ?_⟩⟩⟩
  have s44 := same_but na44 but44
  replace S := S.trans s44
  replace hrow := s44.tup hrow
  clear s44
  refine ⟨small_size (show 3 ≤ 1000 by decide), fun l45 nl45 => ?_⟩
  have s45 := same_upd (o := .lst [V.int i, V.int i, V.int i]) nl45
  have hT := upd_at (o := .lst [V.int i, V.int i, V.int i]) nl45
  replace S := S.trans s45
  replace hrow := s45.tup hrow
  clear s45
  refine ⟨_, rfl, ?_⟩
  refine ⟨_, rfl, _, rfl, (show 2 ≤ 1000 by decide), fun a46 na46 => ⟨a46, _, _, rfl, upd_same, fun H46 dx46 but46 ha46 nd46 ne46 hd46 => ⟨rfl, a46, _, dx46, _, _, rfl, exAt_exo ha46, .inr hd46, (h.ef "BadSizes").erc, h.fld "BadSizes" "given", rfl, ?_⟩⟩⟩
  have s46 := same_but na46 but46
  replace S := S.trans s46
  replace hrow := s46.tup hrow
  replace hT := s46 _ _ hT
  clear s46
  refine ⟨_, rfl, (show 1 ≤ 1000 by decide), fun a47 na47 => ⟨a47, _, rfl, upd_same, fun H47 dx47 but47 ha47 nd47 ne47 hd47 => ⟨rfl, a47, _, dx47, _, _, rfl, exAt_exo ha47, .inr hd47, (h.ef "BadText").erc, h.fld "BadText" "at", rfl, ?_⟩⟩⟩
  have s47 := same_but na47 but47
  replace S := S.trans s47
  replace hrow := s47.tup hrow
  replace hT := s47 _ _ hT
  clear s47
  refine ⟨small_size (show 2 ≤ 1000 by decide), fun l48 nl48 => ?_⟩
  have s48 := same_upd (o := .lst [V.int i, V.int i]) nl48
  refine ⟨_, l48, _, _, rfl, rfl, s48 _ _ hT, upd_same, small_size (by simp), fun l48b nl48b => ?_⟩
  replace s48 := s48.trans (same_upd (o := .lst ([V.int i, V.int i, V.int i] ++ [V.int i, V.int i])) nl48b)
  replace hT := upd_at (o := .lst ([V.int i, V.int i, V.int i] ++ [V.int i, V.int i])) nl48b
  replace S := S.trans s48
  replace hrow := s48.tup hrow
  clear s48
  refine ⟨_, rfl, ?_⟩
  refine ⟨_, rfl, (show 1 ≤ 1000 by decide), fun a49 na49 => ⟨a49, _, rfl, upd_same, fun H49 dx49 but49 ha49 nd49 ne49 hd49 => ⟨rfl, a49, _, dx49, _, _, rfl, exAt_exo ha49, .inr hd49, (h.ef "BadTie").erc, h.fld "BadTie" "index", rfl, ?_⟩⟩⟩
  have s49 := same_but na49 but49
  replace S := S.trans s49
  replace hrow := s49.tup hrow
  replace hT := s49 _ _ hT
  clear s49
  refine ⟨_, rfl, (show 1 ≤ 1000 by decide), fun a50 na50 => ⟨a50, _, rfl, upd_same, fun H50 dx50 but50 ha50 nd50 ne50 hd50 => ⟨rfl, a50, _, dx50, _, _, rfl, exAt_exo ha50, .inr hd50, (h.ef "BadWeight").erc, h.fld "BadWeight" "at", rfl, ?_⟩⟩⟩
  have s50 := same_but na50 but50
  replace S := S.trans s50
  replace hrow := s50.tup hrow
  replace hT := s50 _ _ hT
  clear s50
  refine ⟨_, rfl, (show 1 ≤ 1000 by decide), fun a51 na51 => ⟨a51, _, .i i, rfl, upd_same, rfl, fun H51 dx51 y51 but51 ha51 nd51 ne51 hd51 cp51 => ?_⟩⟩
  cases (show y51 = V.int i from cp51)
  refine ⟨rfl, a51, _, dx51, _, _, rfl, exAt_exo ha51, .inr hd51, (h.ef "NotEven").erc, h.fld "NotEven" "place", rfl, ?_⟩
  have s51 := same_but na51 but51
  replace S := S.trans s51
  replace hrow := s51.tup hrow
  replace hT := s51 _ _ hT
  clear s51
  refine ⟨small_size (show 3 ≤ 1000 by decide), fun l52 nl52 => ?_⟩
  have s52 := same_upd (o := .lst [V.int i, V.int i, V.int i]) nl52
  refine ⟨_, l52, _, _, rfl, rfl, s52 _ _ hT, upd_same, small_size (by simp), fun l52b nl52b => ?_⟩
  replace s52 := s52.trans (same_upd (o := .lst (([V.int i, V.int i, V.int i] ++ [V.int i, V.int i]) ++ [V.int i, V.int i, V.int i])) nl52b)
  replace hT := upd_at (o := .lst (([V.int i, V.int i, V.int i] ++ [V.int i, V.int i]) ++ [V.int i, V.int i, V.int i])) nl52b
  replace S := S.trans s52
  replace hrow := s52.tup hrow
  clear s52
  refine ⟨_, rfl, ?_⟩
  refine ⟨_, rfl, _, rfl, (show 2 ≤ 1000 by decide), fun a53 na53 => ⟨a53, _, _, rfl, upd_same, fun H53 dx53 but53 ha53 nd53 ne53 hd53 => ⟨rfl, a53, _, dx53, _, _, rfl, exAt_exo ha53, .inr hd53, (h.ef "NotSymmetric").erc, h.fld "NotSymmetric" "row", rfl, ?_⟩⟩⟩
  have s53 := same_but na53 but53
  replace S := S.trans s53
  replace hrow := s53.tup hrow
  replace hT := s53 _ _ hT
  clear s53
  refine ⟨_, rfl, (show 1 ≤ 1000 by decide), fun a54 na54 => ⟨a54, _, rfl, upd_same, fun H54 dx54 but54 ha54 nd54 ne54 hd54 => ⟨rfl, a54, _, dx54, _, _, rfl, exAt_exo ha54, .inr hd54, (h.ef "NotUnit").erc, h.fld "NotUnit" "det", rfl, ?_⟩⟩⟩
  have s54 := same_but na54 but54
  replace S := S.trans s54
  replace hrow := s54.tup hrow
  replace hT := s54 _ _ hT
  clear s54
  refine ⟨small_size (show 2 ≤ 1000 by decide), fun l55 nl55 => ?_⟩
  have s55 := same_upd (o := .lst [V.int i, V.int i]) nl55
  refine ⟨_, l55, _, _, rfl, rfl, s55 _ _ hT, upd_same, small_size (by simp), fun l55b nl55b => ?_⟩
  replace s55 := s55.trans (same_upd (o := .lst ((([V.int i, V.int i, V.int i] ++ [V.int i, V.int i]) ++ [V.int i, V.int i, V.int i]) ++ [V.int i, V.int i])) nl55b)
  replace hT := upd_at (o := .lst ((([V.int i, V.int i, V.int i] ++ [V.int i, V.int i]) ++ [V.int i, V.int i, V.int i]) ++ [V.int i, V.int i])) nl55b
  replace S := S.trans s55
  replace hrow := s55.tup hrow
  clear s55
  refine ⟨_, rfl, ?_⟩
  refine ⟨_, rfl, _, rfl, (show 2 ≤ 1000 by decide), fun a56 na56 => ⟨a56, _, _, rfl, upd_same, fun H56 dx56 but56 ha56 nd56 ne56 hd56 => ⟨rfl, a56, _, dx56, _, _, rfl, exAt_exo ha56, .inr hd56, (h.ef "NotWhole").erc, h.fld "NotWhole" "row", rfl, ?_⟩⟩⟩
  have s56 := same_but na56 but56
  replace S := S.trans s56
  replace hrow := s56.tup hrow
  replace hT := s56 _ _ hT
  clear s56
  refine ⟨_, rfl, (show 1 ≤ 1000 by decide), fun a57 na57 => ⟨a57, _, rfl, upd_same, fun H57 dx57 but57 ha57 nd57 ne57 hd57 => ⟨rfl, a57, _, dx57, _, _, rfl, exAt_exo ha57, .inr hd57, (h.ef "Stopped").erc, h.fld "Stopped" "at", rfl, ?_⟩⟩⟩
  have s57 := same_but na57 but57
  replace S := S.trans s57
  replace hrow := s57.tup hrow
  replace hT := s57 _ _ hT
  clear s57
  refine ⟨small_size (show 2 ≤ 1000 by decide), fun l58 nl58 => ?_⟩
  have s58 := same_upd (o := .lst [V.int i, V.int i]) nl58
  refine ⟨_, l58, _, _, rfl, rfl, s58 _ _ hT, upd_same, small_size (by simp), fun l58b nl58b => ?_⟩
  replace s58 := s58.trans (same_upd (o := .lst (((([V.int i, V.int i, V.int i] ++ [V.int i, V.int i]) ++ [V.int i, V.int i, V.int i]) ++ [V.int i, V.int i]) ++ [V.int i, V.int i])) nl58b)
  replace hT := upd_at (o := .lst (((([V.int i, V.int i, V.int i] ++ [V.int i, V.int i]) ++ [V.int i, V.int i, V.int i]) ++ [V.int i, V.int i]) ++ [V.int i, V.int i])) nl58b
  replace S := S.trans s58
  replace hrow := s58.tup hrow
  clear s58
  refine ⟨_, rfl, ?_⟩
  refine ⟨_, rfl, (show 1 ≤ 1000 by decide), fun a59 na59 => ⟨a59, _, rfl, upd_same, fun H59 dx59 but59 ha59 nd59 ne59 hd59 => ⟨rfl, a59, _, dx59, _, _, rfl, exAt_exo ha59, .inr hd59, (h.ef "TooLarge").erc, h.fld "TooLarge" "value", rfl, ?_⟩⟩⟩
  have s59 := same_but na59 but59
  replace S := S.trans s59
  replace hrow := s59.tup hrow
  replace hT := s59 _ _ hT
  clear s59
  refine ⟨_, rfl, (show 1 ≤ 1000 by decide), fun a60 na60 => ⟨a60, _, rfl, upd_same, fun H60 dx60 but60 ha60 nd60 ne60 hd60 => ⟨rfl, a60, _, dx60, _, _, rfl, exAt_exo ha60, .inr hd60, (h.ef "TooMany").erc, h.fld "TooMany" "most", rfl, ?_⟩⟩⟩
  have s60 := same_but na60 but60
  replace S := S.trans s60
  replace hrow := s60.tup hrow
  replace hT := s60 _ _ hT
  clear s60
  refine ⟨_, rfl, (show 1 ≤ 1000 by decide), fun a61 na61 => ⟨a61, _, .i i, rfl, upd_same, rfl, fun H61 dx61 y61 but61 ha61 nd61 ne61 hd61 cp61 => ?_⟩⟩
  cases (show y61 = V.int i from cp61)
  refine ⟨rfl, a61, _, dx61, _, _, rfl, exAt_exo ha61, .inr hd61, (h.ef "BadPlace").erc, h.fld "BadPlace" "place", rfl, ?_⟩
  have s61 := same_but na61 but61
  replace S := S.trans s61
  replace hrow := s61.tup hrow
  replace hT := s61 _ _ hT
  clear s61
  refine ⟨small_size (show 3 ≤ 1000 by decide), fun l62 nl62 => ?_⟩
  have s62 := same_upd (o := .lst [V.int i, V.int i, V.int i]) nl62
  refine ⟨_, l62, _, _, rfl, rfl, s62 _ _ hT, upd_same, small_size (by simp), fun l62b nl62b => ?_⟩
  replace s62 := s62.trans (same_upd (o := .lst ((((([V.int i, V.int i, V.int i] ++ [V.int i, V.int i]) ++ [V.int i, V.int i, V.int i]) ++ [V.int i, V.int i]) ++ [V.int i, V.int i]) ++ [V.int i, V.int i, V.int i])) nl62b)
  replace hT := upd_at (o := .lst ((((([V.int i, V.int i, V.int i] ++ [V.int i, V.int i]) ++ [V.int i, V.int i, V.int i]) ++ [V.int i, V.int i]) ++ [V.int i, V.int i]) ++ [V.int i, V.int i, V.int i])) nl62b
  replace S := S.trans s62
  replace hrow := s62.tup hrow
  clear s62
  refine ⟨_, rfl, _, rfl, _, rfl, ⟨_, SqL.of hT⟩, fun D63 nD63 => lc_list (K := K) (xs := ((((([V.int i, V.int i, V.int i] ++ [V.int i, V.int i]) ++ [V.int i, V.int i, V.int i]) ++ [V.int i, V.int i]) ++ [V.int i, V.int i]) ++ [V.int i, V.int i, V.int i])) (fun k H' => H' = upd _ D63 (.lst (List.replicate k (V.int i)))) rfl ?_ ?_ ?_⟩
  · rintro k H' _ rfl
    exact SqL.of (same_upd nD63 _ _ hT)
  · rintro k x H' hx rfl
    have hk := ix_lt hx
    have hk2 : k < 15 := hk
    refine ⟨rfl, _, rfl, _, upd_same, small_lt (by rw [List.length_replicate]; omega), ?_⟩
    show upd _ _ _ = upd _ _ _
    rw [upd_upd, List.replicate_succ']
  rintro H' rfl
  have s63 := same_upd (o := .lst (List.replicate 15 (V.int i))) nD63
  refine ⟨.list (List.replicate 15 (.int i)), .list (List.replicate 15 (.int i)), .lst (SqL.of (s63 _ _ hT)) (dpRep (.int i) 15), .lst (SqL.of upd_same) (dpRep (.int i) 15), rfl, rfl, _, rfl, ?_⟩
  rw [show PyData.eqv (.list (List.replicate 15 (.int i))) (.list (List.replicate 15 (.int i))) = true from SeqAt.eqv_refl _ rfl]
  refine iteF ?_
  replace S := S.trans s63
  replace hrow := s63.tup hrow
  clear s63 hT
  refine ⟨_, rfl, (show 1 ≤ 1000 by decide), fun a64 na64 => ⟨a64, _, .t [i, j], rfl, upd_same, CpIn.upd_ na64 ⟨row, rfl, (show 2 ≤ 100 by decide), hrow⟩, fun H64 dx64 y64 but64 ha64 nd64 ne64 hd64 cp64 => ?_⟩⟩
  obtain ⟨q64, rfl, hq64⟩ := cp64
  refine ⟨rfl, a64, _, dx64, _, _, rfl, exAt_exo ha64, .inr hd64, (h.ef "BadLot").erc, h.fld "BadLot" "lot", rfl, ?_⟩
  have s64 := same_but na64 but64
  replace S := S.trans s64
  replace hrow := s64.tup hrow
  have A := TupAll.one hq64
  clear s64
  refine ⟨_, rfl, (show 1 ≤ 1000 by decide), fun a65 na65 => ⟨a65, _, .t [i, j], rfl, upd_same, CpIn.upd_ na65 ⟨row, rfl, (show 2 ≤ 100 by decide), hrow⟩, fun H65 dx65 y65 but65 ha65 nd65 ne65 hd65 cp65 => ?_⟩⟩
  obtain ⟨q65, rfl, hq65⟩ := cp65
  refine ⟨rfl, a65, _, dx65, _, _, rfl, exAt_exo ha65, .inr hd65, (h.ef "BadPlace").erc, h.fld "BadPlace" "place", rfl, ?_⟩
  have s65 := same_but na65 but65
  replace S := S.trans s65
  replace hrow := s65.tup hrow
  replace A := (A.same s65).snoc hq65
  clear s65
  refine ⟨_, rfl, (show 1 ≤ 1000 by decide), fun a66 na66 => ⟨a66, _, .t [i, j], rfl, upd_same, CpIn.upd_ na66 ⟨row, rfl, (show 2 ≤ 100 by decide), hrow⟩, fun H66 dx66 y66 but66 ha66 nd66 ne66 hd66 cp66 => ?_⟩⟩
  obtain ⟨q66, rfl, hq66⟩ := cp66
  refine ⟨rfl, a66, _, dx66, _, _, rfl, exAt_exo ha66, .inr hd66, (h.ef "Barred").erc, h.fld "Barred" "weights", rfl, ?_⟩
  have s66 := same_but na66 but66
  replace S := S.trans s66
  replace hrow := s66.tup hrow
  replace A := (A.same s66).snoc hq66
  clear s66
  refine ⟨small_size (show 3 ≤ 1000 by decide), fun l67 nl67 => ?_⟩
  have s67 := same_upd (o := .lst [V.ref q64, V.ref q65, V.ref q66]) nl67
  have hT := upd_at (o := .lst [V.ref q64, V.ref q65, V.ref q66]) nl67
  have T := A.same s67
  replace S := S.trans s67
  replace hrow := s67.tup hrow
  clear s67
  clear A
  refine ⟨_, rfl, ?_⟩
  refine ⟨_, rfl, (show 1 ≤ 1000 by decide), fun a68 na68 => ⟨a68, _, .t [i, j], rfl, upd_same, CpIn.upd_ na68 ⟨row, rfl, (show 2 ≤ 100 by decide), hrow⟩, fun H68 dx68 y68 but68 ha68 nd68 ne68 hd68 cp68 => ?_⟩⟩
  obtain ⟨q68, rfl, hq68⟩ := cp68
  refine ⟨rfl, a68, _, dx68, _, _, rfl, exAt_exo ha68, .inr hd68, (h.ef "Flat").erc, h.fld "Flat" "row", rfl, ?_⟩
  have s68 := same_but na68 but68
  replace S := S.trans s68
  replace hrow := s68.tup hrow
  have A := TupAll.one hq68
  replace T := T.same s68
  replace hT := s68 _ _ hT
  clear s68
  refine ⟨_, rfl, (show 1 ≤ 1000 by decide), fun a69 na69 => ⟨a69, _, .t [i, j], rfl, upd_same, CpIn.upd_ na69 ⟨row, rfl, (show 2 ≤ 100 by decide), hrow⟩, fun H69 dx69 y69 but69 ha69 nd69 ne69 hd69 cp69 => ?_⟩⟩
  obtain ⟨q69, rfl, hq69⟩ := cp69
  refine ⟨rfl, a69, _, dx69, _, _, rfl, exAt_exo ha69, .inr hd69, (h.ef "Loose").erc, h.fld "Loose" "lot", rfl, ?_⟩
  have s69 := same_but na69 but69
  replace S := S.trans s69
  replace hrow := s69.tup hrow
  replace A := (A.same s69).snoc hq69
  replace T := T.same s69
  replace hT := s69 _ _ hT
  clear s69
  refine ⟨_, rfl, (show 1 ≤ 1000 by decide), fun a70 na70 => ⟨a70, _, .t [i, j], rfl, upd_same, CpIn.upd_ na70 ⟨row, rfl, (show 2 ≤ 100 by decide), hrow⟩, fun H70 dx70 y70 but70 ha70 nd70 ne70 hd70 cp70 => ?_⟩⟩
  obtain ⟨q70, rfl, hq70⟩ := cp70
  refine ⟨rfl, a70, _, dx70, _, _, rfl, exAt_exo ha70, .inr hd70, (h.ef "NoMirror").erc, h.fld "NoMirror" "row", rfl, ?_⟩
  have s70 := same_but na70 but70
  replace S := S.trans s70
  replace hrow := s70.tup hrow
  replace A := (A.same s70).snoc hq70
  replace T := T.same s70
  replace hT := s70 _ _ hT
  clear s70
  refine ⟨small_size (show 3 ≤ 1000 by decide), fun l71 nl71 => ?_⟩
  have s71 := same_upd (o := .lst [V.ref q68, V.ref q69, V.ref q70]) nl71
  refine ⟨_, l71, _, _, rfl, rfl, s71 _ _ hT, upd_same, small_size (by simp), fun l71b nl71b => ?_⟩
  replace s71 := s71.trans (same_upd (o := .lst ([V.ref q64, V.ref q65, V.ref q66] ++ [V.ref q68, V.ref q69, V.ref q70])) nl71b)
  replace hT := upd_at (o := .lst ([V.ref q64, V.ref q65, V.ref q66] ++ [V.ref q68, V.ref q69, V.ref q70])) nl71b
  replace T := (T.same s71).app (A.same s71)
  clear A
  replace S := S.trans s71
  replace hrow := s71.tup hrow
  clear s71
  refine ⟨_, rfl, ?_⟩
  refine ⟨_, rfl, (show 1 ≤ 1000 by decide), fun a72 na72 => ⟨a72, _, .t [i, j], rfl, upd_same, CpIn.upd_ na72 ⟨row, rfl, (show 2 ≤ 100 by decide), hrow⟩, fun H72 dx72 y72 but72 ha72 nd72 ne72 hd72 cp72 => ?_⟩⟩
  obtain ⟨q72, rfl, hq72⟩ := cp72
  refine ⟨rfl, a72, _, dx72, _, _, rfl, exAt_exo ha72, .inr hd72, (h.ef "NotPositive").erc, h.fld "NotPositive" "row", rfl, ?_⟩
  have s72 := same_but na72 but72
  replace S := S.trans s72
  replace hrow := s72.tup hrow
  have A := TupAll.one hq72
  replace T := T.same s72
  replace hT := s72 _ _ hT
  clear s72
  refine ⟨_, rfl, (show 1 ≤ 1000 by decide), fun a73 na73 => ⟨a73, _, .t [i, j], rfl, upd_same, CpIn.upd_ na73 ⟨row, rfl, (show 2 ≤ 100 by decide), hrow⟩, fun H73 dx73 y73 but73 ha73 nd73 ne73 hd73 cp73 => ?_⟩⟩
  obtain ⟨q73, rfl, hq73⟩ := cp73
  refine ⟨rfl, a73, _, dx73, _, _, rfl, exAt_exo ha73, .inr hd73, (h.ef "Singular").erc, h.fld "Singular" "row", rfl, ?_⟩
  have s73 := same_but na73 but73
  replace S := S.trans s73
  replace hrow := s73.tup hrow
  replace A := (A.same s73).snoc hq73
  replace T := T.same s73
  replace hT := s73 _ _ hT
  clear s73
  refine ⟨small_size (show 2 ≤ 1000 by decide), fun l74 nl74 => ?_⟩
  have s74 := same_upd (o := .lst [V.ref q72, V.ref q73]) nl74
  refine ⟨_, l74, _, _, rfl, rfl, s74 _ _ hT, upd_same, small_size (by simp), fun l74b nl74b => ?_⟩
  replace s74 := s74.trans (same_upd (o := .lst (([V.ref q64, V.ref q65, V.ref q66] ++ [V.ref q68, V.ref q69, V.ref q70]) ++ [V.ref q72, V.ref q73])) nl74b)
  replace hT := upd_at (o := .lst (([V.ref q64, V.ref q65, V.ref q66] ++ [V.ref q68, V.ref q69, V.ref q70]) ++ [V.ref q72, V.ref q73])) nl74b
  replace T := (T.same s74).app (A.same s74)
  clear A
  replace S := S.trans s74
  replace hrow := s74.tup hrow
  clear s74
  refine ⟨_, rfl, _, rfl, _, rfl, ⟨_, SqL.of hT⟩, fun D75 nD75 => lc_list (K := K) (xs := (([V.ref q64, V.ref q65, V.ref q66] ++ [V.ref q68, V.ref q69, V.ref q70]) ++ [V.ref q72, V.ref q73])) (fun k H' => H' = upd _ D75 (.lst (List.replicate k (V.ref row)))) rfl ?_ ?_ ?_⟩
  · rintro k H' _ rfl
    exact SqL.of (same_upd nD75 _ _ hT)
  · rintro k x H' hx rfl
    have hk := ix_lt hx
    have hk2 : k < 8 := hk
    refine ⟨rfl, _, rfl, _, upd_same, small_lt (by rw [List.length_replicate]; omega), ?_⟩
    show upd _ _ _ = upd _ _ _
    rw [upd_upd, List.replicate_succ']
  rintro H' rfl
  have s75 := same_upd (o := .lst (List.replicate 8 (V.ref row))) nD75
  refine ⟨.list (List.replicate 8 (.tuple [.int i, .int j])), .list (List.replicate 8 (.tuple [.int i, .int j])), .lst (SqL.of (s75 _ _ hT)) (dpTups (T.same s75)), .lst (SqL.of upd_same) (dpRep (.tup (s75.tup hrow) (.cons (.int i) (.cons (.int j) .nil))) 8), rfl, rfl, _, rfl, ?_⟩
  rw [show PyData.eqv (.list (List.replicate 8 (.tuple [.int i, .int j]))) (.list (List.replicate 8 (.tuple [.int i, .int j]))) = true from SeqAt.eqv_refl _ rfl]
  refine iteF ?_
  replace S := S.trans s75
  replace hrow := s75.tup hrow
  clear s75 hT T
  refine ⟨_, rfl, _, rfl, (show 2 ≤ 1000 by decide), fun a76 na76 => ⟨a76, _, _, rfl, upd_same, fun H76 dx76 but76 ha76 nd76 ne76 hd76 => ⟨rfl, a76, _, dx76, _, _, rfl, exAt_exo ha76, .inr hd76, (h.ef "BadSizes").erc, h.fld "BadSizes" "wanted", rfl, ?_⟩⟩⟩
  have s76 := same_but na76 but76
  replace S := S.trans s76
  replace hrow := s76.tup hrow
  clear s76
  refine ⟨_, rfl, _, rfl, (show 2 ≤ 1000 by decide), fun a77 na77 => ⟨a77, _, _, rfl, upd_same, fun H77 dx77 but77 ha77 nd77 ne77 hd77 => ⟨rfl, a77, _, dx77, _, _, rfl, exAt_exo ha77, .inr hd77, (h.ef "NotSymmetric").erc, h.fld "NotSymmetric" "column", rfl, ?_⟩⟩⟩
  have s77 := same_but na77 but77
  replace S := S.trans s77
  replace hrow := s77.tup hrow
  clear s77
  refine ⟨small_size (show 2 ≤ 1000 by decide), fun l78 nl78 => ?_⟩
  have s78 := same_upd (o := .lst [.int j, .int j]) nl78
  have hT := upd_at (o := .lst [.int j, .int j]) nl78
  replace S := S.trans s78
  replace hrow := s78.tup hrow
  clear s78
  refine ⟨_, rfl, _, rfl, _, rfl, small_size (show 2 ≤ 1000 by decide), fun l79 nl79 => ?_⟩
  have s79 := same_upd (o := .lst [.int j, .int j]) nl79
  refine ⟨.list [.int j, .int j], .list [.int j, .int j], .lst (SqL.of (s79 _ _ hT)) (.cons (.int j) (.cons (.int j) .nil)), .lst (SqL.of upd_same) (.cons (.int j) (.cons (.int j) .nil)), rfl, rfl, _, rfl, ?_⟩
  rw [show PyData.eqv (.list [.int j, .int j]) (.list [.int j, .int j]) = true from SeqAt.eqv_refl _ rfl]
  refine iteF ?_
  replace S := S.trans s79
  replace hrow := s79.tup hrow
  clear s79 hT
  refine ⟨_, rfl, _, rfl, (show 2 ≤ 1000 by decide), fun a80 na80 => ⟨a80, _, _, rfl, upd_same, fun H80 dx80 but80 ha80 nd80 ne80 hd80 => ⟨rfl, a80, _, dx80, _, _, rfl, exAt_exo ha80, .inr hd80, (h.ef "NotWhole").erc, h.fld "NotWhole" "column", rfl, ?_⟩⟩⟩
  have s80 := same_but na80 but80
  replace S := S.trans s80
  replace hrow := s80.tup hrow
  clear s80
  refine ⟨_, rfl, rfl, _, rfl, iteNS rfl ?_⟩
  refine ⟨_, rfl, (show 1 ≤ 1000 by decide), fun a81 na81 => ⟨a81, _, rfl, upd_same, fun H81 dx81 but81 ha81 nd81 ne81 hd81 => ⟨rfl, a81, _, dx81, _, _, rfl, exAt_exo ha81, .inr hd81, (h.ef "BadName").erc, h.fld "BadName" "name", rfl, ?_⟩⟩⟩
  have s81 := same_but na81 but81
  replace S := S.trans s81
  replace hrow := s81.tup hrow
  clear s81
  refine ⟨_, rfl, rfl, _, rfl, iteNS rfl ?_⟩
  refine ⟨_, rfl, (show 1 ≤ 1000 by decide), fun a82 na82 => ⟨a82, _, rfl, upd_same, fun H82 dx82 but82 ha82 nd82 ne82 hd82 => ⟨rfl, a82, _, dx82, _, _, rfl, exAt_exo ha82, .inr hd82, (h.ef "NoDeed").erc, h.fld "NoDeed" "name", rfl, ?_⟩⟩⟩
  have s82 := same_but na82 but82
  replace S := S.trans s82
  replace hrow := s82.tup hrow
  clear s82
  refine ⟨_, rfl, rfl, _, rfl, iteNS rfl ?_⟩
  refine ⟨_, rfl, _, rfl, small_size (show 2 ≤ 1000 by decide), fun given ng => ?_⟩
  have SN := S
  have hgiven := upd_at (o := .lst [.int i, .int j]) ng
  have sg := same_upd (o := .lst [.int i, .int j]) ng
  replace S := S.trans sg
  replace hrow := sg.tup hrow
  clear sg
  refine ⟨_, rfl, (show 1 ≤ 1000 by decide), fun a83 na83 => ⟨a83, _, .l [i, j], rfl, upd_same, CpIn.upd_ na83 ⟨given, rfl, (show 2 ≤ 100 by decide), SqL.of hgiven⟩, fun H83 dx83 y83 but83 ha83 nd83 ne83 hd83 cp83 => ?_⟩⟩
  obtain ⟨q83, rfl, nq83, hq83⟩ := cp83
  refine ⟨rfl, ?_⟩
  have s83 := same_but na83 but83
  replace S := S.trans s83
  replace hrow := s83.tup hrow
  have gg := s83 _ _ hgiven
  have gaa : a83 ≠ given := fun w => by
    rw [w, hgiven] at na83
    cases na83
  have gg2 := same_upd (o := exo a83 (ga K "BadLot") none) na83 _ _ hgiven
  have gd : dx83 ≠ given := fun w => by
    rw [w] at nd83
    exact nomatch (nd83.symm.trans gg2)
  have gq : q83 ≠ given := fun w => by
    rw [w] at nq83
    exact nomatch (nq83.symm.trans gg2)
  have fr : ∀ o, Same H (upd H83 given o) := fun o b u e => by
    have bg : b ≠ given := fun w => by
      have z := SN.free ng
      rw [w, z] at e
      cases e
    rw [upd_ne bg]
    exact S _ _ e
  refine ⟨_, rfl, .inl ⟨rfl, _, SqL.of gg⟩, given, _, _, rfl, rfl, gg, small_lt (show 2 ≤ 1000 by decide), ?_⟩
  refine ⟨_, rfl, a83, _, dx83, _, _, rfl, exAt_exo (by rw [upd_ne gaa]; exact ha83), .inr (by rw [upd_ne gd]; exact hd83), (h.ef "BadLot").erc, h.fld "BadLot" "lot", rfl, ?_⟩
  refine ⟨q83, [.int i, .int j], rfl, .inl (SqL.of (by rw [upd_ne gq]; exact hq83)), fun le nle => ?_⟩
  refine ⟨_, rfl, _, rfl, small_size (show 2 ≤ 1000 by decide), fun lf nlf => ?_⟩
  have sf := same_upd (o := .lst [.int i, .int j]) nlf
  refine ⟨.list [.int i, .int j], .list [.int i, .int j], .lst (SqL.of (sf _ _ upd_same)) (.cons (.int i) (.cons (.int j) .nil)), .lst (SqL.of upd_same) (.cons (.int i) (.cons (.int j) .nil)), rfl, rfl, ?_⟩
  rw [show PyData.eqv (.list [.int i, .int j]) (.list [.int i, .int j]) = true from SeqAt.eqv_refl _ rfl]
  exact hq _ (((fr _).trans (same_upd nle)).trans sf)
end
end K0
namespace K0
open PySem PySem.Spec PyProof.Rows L2 He HX KF
section
variable {P : Program} {w : World} {K : PySem.W.Frag} {mg : Str → Option Value} {base : Heap}
def NN__law_is : List PySem.Str := ["told", "num", "den"]
theorem sc__law_is : FnScope NN__law_is ["told", "num", "den"] (defScope (top 59)) := ⟨rfl, rfl, rfl, by decide +kernel, rfl, by decide +kernel, by decide +kernel⟩
theorem ok__law_is (h : HK K mg) (c__law_low : Cal P w K mg base 2 "_law_low" ["num", "den"] (sp__law_low K)) (c__law_whole : CalW P w K mg base 1 "_law_whole" ["told"] (sp__law_whole K)) : Cal P w K mg base 3 "_law_is" ["told", "num", "den"] (sp__law_is K) := by
  have F : FunD K "_law_is" "_law_is" (defArgs (top 59)) (defBody (top 59)) (defScope (top 59)) [] [] (ga K "_law_is") (fdA K (ga K "_law_is")) := h.says.funD 35
  have G : FnOk P w K mg base (L2.CX P w) (2 + 1) (ga K "_law_is") (fdA K (ga K "_law_is")) ["told", "num", "den"] (sp__law_is K) := okX F sc__law_is (fun vs H Q E hs => by (repeat (obtain ⟨_, hs⟩ := hs)) <;> subst_vars <;> rfl) (fun cdv A outer s H vs Q E hr hs => ?_)
  · exact ⟨G, h.glo _, F.kp, F.bindsN (fun _ _ _ _ _ _ us hl => match us, hl with | [_, _, _], _ => rfl)⟩
  refine ⟨_, (pss_cons (ps_if (pt_not (pt_val (pe_callB call_isi (by rfl) (h.free "isinstance") (by decide +kernel) (pa_cons (pv 0) (pa_cons (pe_glob (v := .ref (ga K "Frac")) (by rfl) (h.glo "Frac") rfl) pa_nil)))))
        (pss_one (ps_ret pe_bl))
        pss_nil)
      (pss_cons (ps_if (PW.pt (pw_or (pt_not (pt_val (pe_cal c__law_whole.cal hr passL (pa_cons (pe_fld (pv 0) (by rfl)) pa_nil)))) (pw_or1 (pt_not (pt_val (pe_cal c__law_whole.cal hr passL (pa_cons (pe_fld (pv 0) (by rfl)) pa_nil)))))))
        (pss_one (ps_ret pe_bl))
        pss_nil)
      (pss_one (ps_ret (pe_cmpR (op_eqD hr.units) (pe_tup (pa_cons (pe_fld (pv 0) (by rfl)) (pa_cons (pe_fld (pv 0) (by rfl)) pa_nil))) (pe_cal c__law_low hr passL (pa_cons (pv 1) (pa_cons (pv 2) pa_nil))) (nomark _)))))), ?_⟩
  obtain ⟨a, n, d, rfl, hd, hb, ⟨dx, ha⟩, hq⟩ := hs
  have ff := h.ff
  refine ⟨_, rfl, _, _, _, _, _, rfl, .own _, ff.tyX ha, ff.kF, _, rfl, iteF ?_⟩
  refine ⟨_, rfl, _, _, _, _, _, rfl, ha, ff.cls, ff.no _ (by decide +kernel), rfl, _, rfl, _, rfl, iteF (⟨_, rfl, _, _, _, _, _, rfl, ha, ff.cls, ff.no _ (by decide +kernel), rfl, _, rfl, _, rfl, iteF ?_⟩)⟩
  refine ⟨_, rfl, _, _, _, _, _, rfl, ha, ff.cls, ff.no _ (by decide +kernel), rfl, ⟨_, rfl, _, _, _, _, _, rfl, ha, ff.cls, ff.no _ (by decide +kernel), rfl, two_size, fun t ht => ?_⟩⟩
  refine ⟨_, rfl, _, rfl, n, d, rfl, hd, hb, fun q hqn => ?_⟩
  have s1 := same_upd (H := H) (a := t) (o := .tup [.int (lowN n d), .int (lowD n d)]) ht
  have s2 := same_upd (o := .tup [.int (lowN n d), .int (lowD n d)]) hqn
  refine ⟨_, _, .tup (SqT.of (s2 _ _ upd_same)) (.cons (.int _) (.cons (.int _) .nil)), .tup (SqT.of upd_same) (.cons (.int _) (.cons (.int _) .nil)), rfl, rfl, ?_⟩
  rw [show PyData.eqv (.tuple [.int (lowN n d), .int (lowD n d)]) (.tuple [.int (lowN n d), .int (lowD n d)]) = true from SeqAt.eqv_refl _ rfl]
  exact hq _ (s1.trans s2)
end
end K0
namespace K0
open PySem PySem.Spec PyProof.Rows L2 He HX KF
theorem kinds_step {K : PySem.W.Frag} {mg : Str → Option Value} (h : HK K mg) {a l : Addr} {x : Str} {fs : List (Str × V)} {H : Hp} {D : Ends} {ks : List Bool} {r : Option V} (A B : Str) (e : ErrAt K H a x fs) (hl : H l = some (.lst (ks.map V.bl))) (hz : ks.length ≤ 40) (hA : A ∈ errN) (hB : B ∈ errN)
    (k : ∀ H' l', Same H H' → H' l' = some (.lst ((ks ++ [decide (x = A), decide (x = B)]).map V.bl)) → D.nx [some (.ref a), some (.ref l'), r] H') :
    tAsg (tOp rCat (tVar 1) (tLst (tCons (tCB (rIsX K) (tCons (tVar 0) (tCons (tC (.ref (ga K A))) tNil))) (tCons (tCB (rIsX K) (tCons (tVar 0) (tCons (tC (.ref (ga K B))) tNil))) tNil)))) (gName 1) D [some (.ref a), some (.ref l), r] H := by
  obtain ⟨hx, d, he, h0, hd⟩ := e
  have erc := (h.ef x hx).erc
  refine ⟨_, rfl, _, rfl, a, ga K x, d, fs, _, _, _, rfl, he, hd, erc, (fun u r => r), h.kitE x A hx hA, _, rfl, a, ga K x, d, fs, _, _, _, rfl, he, hd, erc, (fun u r => r), h.kitE x B hx hB, small_size (show 2 ≤ 1000 by decide), fun q hq => ?_⟩
  have s1 := same_upd (o := .lst [.bl (decide (x = A)), .bl (decide (x = B))]) hq
  refine ⟨l, q, _, _, rfl, rfl, s1 _ _ hl, upd_same, small_size (by simp; omega), fun p hp => ?_⟩
  refine k _ p (s1.trans (same_upd hp)) ?_
  rw [upd_same, List.map_append]
  rfl
section
variable {P : Program} {w : World} {K : PySem.W.Frag} {mg : Str → Option Value} {base : Heap}
def NN__law_kinds : List PySem.Str := ["e", "kinds", "kind"]
theorem sc__law_kinds : FnScope NN__law_kinds ["e"] (defScope (top 75)) := ⟨rfl, rfl, rfl, by decide +kernel, rfl, by decide +kernel, by decide +kernel⟩
theorem ok__law_kinds (h : HK K mg) : Cal P w K mg base 1 "_law_kinds" ["e"] (sp__law_kinds K) := by
  have F : FunD K "_law_kinds" "_law_kinds" (defArgs (top 75)) (defBody (top 75)) (defScope (top 75)) [] [] (ga K "_law_kinds") (fdA K (ga K "_law_kinds")) := h.says.funD 51
  have G : FnOk P w K mg base (L2.CX P w) (0 + 1) (ga K "_law_kinds") (fdA K (ga K "_law_kinds")) ["e"] (sp__law_kinds K) := okX F sc__law_kinds (fun vs H Q E hs => by (repeat (obtain ⟨_, hs⟩ := hs)) <;> subst_vars <;> rfl) (fun cdv A outer s H vs Q E hr hs => ?_)
  · exact ⟨G, h.glo _, F.kp, F.bindsN (fun _ _ _ _ _ _ us hl => match us, hl with | [_], _ => rfl)⟩
  refine ⟨_, (pss_cons (ps_set (i := 1) sc__law_kinds.nd rfl (by first | exact Or.inl rfl | exact Or.inr rfl) (pe_lst (pa_cons (pe_callB call_isX (by rfl) (h.free "isinstance") (by decide +kernel) (pa_cons (pv 0) (pa_cons (pe_glob (v := .ref (ga K "BadCount")) (by rfl) (h.glo "BadCount") rfl) pa_nil))) (pa_cons (pe_callB call_isX (by rfl) (h.free "isinstance") (by decide +kernel) (pa_cons (pv 0) (pa_cons (pe_glob (v := .ref (ga K "BadLot")) (by rfl) (h.glo "BadLot") rfl) pa_nil))) pa_nil))))
      (pss_cons (ps_set (i := 1) sc__law_kinds.nd rfl (by first | exact Or.inl rfl | exact Or.inr rfl) (pe_op op_cat (pv 1) (pe_lst (pa_cons (pe_callB call_isX (by rfl) (h.free "isinstance") (by decide +kernel) (pa_cons (pv 0) (pa_cons (pe_glob (v := .ref (ga K "BadName")) (by rfl) (h.glo "BadName") rfl) pa_nil))) (pa_cons (pe_callB call_isX (by rfl) (h.free "isinstance") (by decide +kernel) (pa_cons (pv 0) (pa_cons (pe_glob (v := .ref (ga K "BadPlace")) (by rfl) (h.glo "BadPlace") rfl) pa_nil))) pa_nil)))))
      (pss_cons (ps_set (i := 1) sc__law_kinds.nd rfl (by first | exact Or.inl rfl | exact Or.inr rfl) (pe_op op_cat (pv 1) (pe_lst (pa_cons (pe_callB call_isX (by rfl) (h.free "isinstance") (by decide +kernel) (pa_cons (pv 0) (pa_cons (pe_glob (v := .ref (ga K "BadSign")) (by rfl) (h.glo "BadSign") rfl) pa_nil))) (pa_cons (pe_callB call_isX (by rfl) (h.free "isinstance") (by decide +kernel) (pa_cons (pv 0) (pa_cons (pe_glob (v := .ref (ga K "BadSize")) (by rfl) (h.glo "BadSize") rfl) pa_nil))) pa_nil)))))
      (pss_cons (ps_set (i := 1) sc__law_kinds.nd rfl (by first | exact Or.inl rfl | exact Or.inr rfl) (pe_op op_cat (pv 1) (pe_lst (pa_cons (pe_callB call_isX (by rfl) (h.free "isinstance") (by decide +kernel) (pa_cons (pv 0) (pa_cons (pe_glob (v := .ref (ga K "BadSizes")) (by rfl) (h.glo "BadSizes") rfl) pa_nil))) (pa_cons (pe_callB call_isX (by rfl) (h.free "isinstance") (by decide +kernel) (pa_cons (pv 0) (pa_cons (pe_glob (v := .ref (ga K "BadText")) (by rfl) (h.glo "BadText") rfl) pa_nil))) pa_nil)))))
      (pss_cons (ps_set (i := 1) sc__law_kinds.nd rfl (by first | exact Or.inl rfl | exact Or.inr rfl) (pe_op op_cat (pv 1) (pe_lst (pa_cons (pe_callB call_isX (by rfl) (h.free "isinstance") (by decide +kernel) (pa_cons (pv 0) (pa_cons (pe_glob (v := .ref (ga K "BadTie")) (by rfl) (h.glo "BadTie") rfl) pa_nil))) (pa_cons (pe_callB call_isX (by rfl) (h.free "isinstance") (by decide +kernel) (pa_cons (pv 0) (pa_cons (pe_glob (v := .ref (ga K "BadWeight")) (by rfl) (h.glo "BadWeight") rfl) pa_nil))) pa_nil)))))
      (pss_cons (ps_set (i := 1) sc__law_kinds.nd rfl (by first | exact Or.inl rfl | exact Or.inr rfl) (pe_op op_cat (pv 1) (pe_lst (pa_cons (pe_callB call_isX (by rfl) (h.free "isinstance") (by decide +kernel) (pa_cons (pv 0) (pa_cons (pe_glob (v := .ref (ga K "Barred")) (by rfl) (h.glo "Barred") rfl) pa_nil))) (pa_cons (pe_callB call_isX (by rfl) (h.free "isinstance") (by decide +kernel) (pa_cons (pv 0) (pa_cons (pe_glob (v := .ref (ga K "DivisionByZero")) (by rfl) (h.glo "DivisionByZero") rfl) pa_nil))) pa_nil)))))
      (pss_cons (ps_set (i := 1) sc__law_kinds.nd rfl (by first | exact Or.inl rfl | exact Or.inr rfl) (pe_op op_cat (pv 1) (pe_lst (pa_cons (pe_callB call_isX (by rfl) (h.free "isinstance") (by decide +kernel) (pa_cons (pv 0) (pa_cons (pe_glob (v := .ref (ga K "Ended")) (by rfl) (h.glo "Ended") rfl) pa_nil))) (pa_cons (pe_callB call_isX (by rfl) (h.free "isinstance") (by decide +kernel) (pa_cons (pv 0) (pa_cons (pe_glob (v := .ref (ga K "Flat")) (by rfl) (h.glo "Flat") rfl) pa_nil))) pa_nil)))))
      (pss_cons (ps_set (i := 1) sc__law_kinds.nd rfl (by first | exact Or.inl rfl | exact Or.inr rfl) (pe_op op_cat (pv 1) (pe_lst (pa_cons (pe_callB call_isX (by rfl) (h.free "isinstance") (by decide +kernel) (pa_cons (pv 0) (pa_cons (pe_glob (v := .ref (ga K "Loose")) (by rfl) (h.glo "Loose") rfl) pa_nil))) (pa_cons (pe_callB call_isX (by rfl) (h.free "isinstance") (by decide +kernel) (pa_cons (pv 0) (pa_cons (pe_glob (v := .ref (ga K "Mismatch")) (by rfl) (h.glo "Mismatch") rfl) pa_nil))) pa_nil)))))
      (pss_cons (ps_set (i := 1) sc__law_kinds.nd rfl (by first | exact Or.inl rfl | exact Or.inr rfl) (pe_op op_cat (pv 1) (pe_lst (pa_cons (pe_callB call_isX (by rfl) (h.free "isinstance") (by decide +kernel) (pa_cons (pv 0) (pa_cons (pe_glob (v := .ref (ga K "NoBall")) (by rfl) (h.glo "NoBall") rfl) pa_nil))) (pa_cons (pe_callB call_isX (by rfl) (h.free "isinstance") (by decide +kernel) (pa_cons (pv 0) (pa_cons (pe_glob (v := .ref (ga K "NoDeed")) (by rfl) (h.glo "NoDeed") rfl) pa_nil))) pa_nil)))))
      (pss_cons (ps_set (i := 1) sc__law_kinds.nd rfl (by first | exact Or.inl rfl | exact Or.inr rfl) (pe_op op_cat (pv 1) (pe_lst (pa_cons (pe_callB call_isX (by rfl) (h.free "isinstance") (by decide +kernel) (pa_cons (pv 0) (pa_cons (pe_glob (v := .ref (ga K "NoMirror")) (by rfl) (h.glo "NoMirror") rfl) pa_nil))) (pa_cons (pe_callB call_isX (by rfl) (h.free "isinstance") (by decide +kernel) (pa_cons (pv 0) (pa_cons (pe_glob (v := .ref (ga K "NotEven")) (by rfl) (h.glo "NotEven") rfl) pa_nil))) pa_nil)))))
      (pss_cons (ps_set (i := 1) sc__law_kinds.nd rfl (by first | exact Or.inl rfl | exact Or.inr rfl) (pe_op op_cat (pv 1) (pe_lst (pa_cons (pe_callB call_isX (by rfl) (h.free "isinstance") (by decide +kernel) (pa_cons (pv 0) (pa_cons (pe_glob (v := .ref (ga K "NotPerfect")) (by rfl) (h.glo "NotPerfect") rfl) pa_nil))) (pa_cons (pe_callB call_isX (by rfl) (h.free "isinstance") (by decide +kernel) (pa_cons (pv 0) (pa_cons (pe_glob (v := .ref (ga K "NothingToRedo")) (by rfl) (h.glo "NothingToRedo") rfl) pa_nil))) pa_nil)))))
      (pss_cons (ps_set (i := 1) sc__law_kinds.nd rfl (by first | exact Or.inl rfl | exact Or.inr rfl) (pe_op op_cat (pv 1) (pe_lst (pa_cons (pe_callB call_isX (by rfl) (h.free "isinstance") (by decide +kernel) (pa_cons (pv 0) (pa_cons (pe_glob (v := .ref (ga K "NothingToUndo")) (by rfl) (h.glo "NothingToUndo") rfl) pa_nil))) (pa_cons (pe_callB call_isX (by rfl) (h.free "isinstance") (by decide +kernel) (pa_cons (pv 0) (pa_cons (pe_glob (v := .ref (ga K "NotPositive")) (by rfl) (h.glo "NotPositive") rfl) pa_nil))) pa_nil)))))
      (pss_cons (ps_set (i := 1) sc__law_kinds.nd rfl (by first | exact Or.inl rfl | exact Or.inr rfl) (pe_op op_cat (pv 1) (pe_lst (pa_cons (pe_callB call_isX (by rfl) (h.free "isinstance") (by decide +kernel) (pa_cons (pv 0) (pa_cons (pe_glob (v := .ref (ga K "NotSymmetric")) (by rfl) (h.glo "NotSymmetric") rfl) pa_nil))) (pa_cons (pe_callB call_isX (by rfl) (h.free "isinstance") (by decide +kernel) (pa_cons (pv 0) (pa_cons (pe_glob (v := .ref (ga K "NotUnit")) (by rfl) (h.glo "NotUnit") rfl) pa_nil))) pa_nil)))))
      (pss_cons (ps_set (i := 1) sc__law_kinds.nd rfl (by first | exact Or.inl rfl | exact Or.inr rfl) (pe_op op_cat (pv 1) (pe_lst (pa_cons (pe_callB call_isX (by rfl) (h.free "isinstance") (by decide +kernel) (pa_cons (pv 0) (pa_cons (pe_glob (v := .ref (ga K "NotWhole")) (by rfl) (h.glo "NotWhole") rfl) pa_nil))) (pa_cons (pe_callB call_isX (by rfl) (h.free "isinstance") (by decide +kernel) (pa_cons (pv 0) (pa_cons (pe_glob (v := .ref (ga K "Singular")) (by rfl) (h.glo "Singular") rfl) pa_nil))) pa_nil)))))
      (pss_cons (ps_set (i := 1) sc__law_kinds.nd rfl (by first | exact Or.inl rfl | exact Or.inr rfl) (pe_op op_cat (pv 1) (pe_lst (pa_cons (pe_callB call_isX (by rfl) (h.free "isinstance") (by decide +kernel) (pa_cons (pv 0) (pa_cons (pe_glob (v := .ref (ga K "Stopped")) (by rfl) (h.glo "Stopped") rfl) pa_nil))) (pa_cons (pe_callB call_isX (by rfl) (h.free "isinstance") (by decide +kernel) (pa_cons (pv 0) (pa_cons (pe_glob (v := .ref (ga K "TooLarge")) (by rfl) (h.glo "TooLarge") rfl) pa_nil))) pa_nil)))))
      (pss_cons (ps_set (i := 1) sc__law_kinds.nd rfl (by first | exact Or.inl rfl | exact Or.inr rfl) (pe_op op_cat (pv 1) (pe_lst (pa_cons (pe_callB call_isX (by rfl) (h.free "isinstance") (by decide +kernel) (pa_cons (pv 0) (pa_cons (pe_glob (v := .ref (ga K "TooMany")) (by rfl) (h.glo "TooMany") rfl) pa_nil))) (pa_cons (pe_callB call_isX (by rfl) (h.free "isinstance") (by decide +kernel) (pa_cons (pv 0) (pa_cons (pe_glob (v := .ref (ga K "ZeroRow")) (by rfl) (h.glo "ZeroRow") rfl) pa_nil))) pa_nil)))))
      (pss_one (ps_ret (pe_callB call_len_seq (by rfl) (h.free "len") (by decide +kernel) (pa_cons (pe_lc (own := [("kind", 2)]) (g := gName 2) (by rfl) sc__law_kinds.nd (pi_list (pv 1)) (blkOk_by (own := [("kind", 2)]) (N := NN__law_kinds) (sc := defScope (top 75)) (by decide +kernel)) (fun _ _ _ _ _ => pg_name (i := 2) sc__law_kinds.nd rfl (Or.inl rfl)) (fun _ _ _ _ _ => (pts_one (pt_val (pv 2)))) (fun _ _ _ _ _ => (pv 2))) pa_nil)))))))))))))))))))), ?_⟩
  obtain ⟨a, x, fs, rfl, he, hq⟩ := hs
  obtain ⟨hx, d, hE, h0, hd⟩ := id he
  have erc := (h.ef x hx).erc
  refine ⟨_, rfl, a, ga K x, d, fs, _, _, _, rfl, hE, hd, erc, (fun u r => r), h.kitE x "BadCount" hx (by decide +kernel), _, rfl, a, ga K x, d, fs, _, _, _, rfl, hE, hd, erc, (fun u r => r), h.kitE x "BadLot" hx (by decide +kernel), small_size (show 2 ≤ 1000 by decide), fun l hl => ?_⟩
  have S := same_upd (o := .lst [.bl (decide (x = "BadCount")), .bl (decide (x = "BadLot"))]) hl
  have hk : (upd H l (.lst [.bl (decide (x = "BadCount")), .bl (decide (x = "BadLot"))])) l = some (.lst (([decide (x = "BadCount"), decide (x = "BadLot")] : List Bool).map V.bl)) := upd_same
  dsimp only [gName, tSeq]
  generalize (upd H l (.lst [.bl (decide (x = "BadCount")), .bl (decide (x = "BadLot"))])) = H1 at *
  refine kinds_step h "BadName" "BadPlace" (he.same S) hk (by simp) (by decide +kernel) (by decide +kernel) (fun H2 l2 s2 hk2 => ?_)
  replace S := S.trans s2
  replace hk := hk2
  clear s2 hk2
  refine kinds_step h "BadSign" "BadSize" (he.same S) hk (by simp) (by decide +kernel) (by decide +kernel) (fun H3 l3 s3 hk3 => ?_)
  replace S := S.trans s3
  replace hk := hk3
  clear s3 hk3
  refine kinds_step h "BadSizes" "BadText" (he.same S) hk (by simp) (by decide +kernel) (by decide +kernel) (fun H4 l4 s4 hk4 => ?_)
  replace S := S.trans s4
  replace hk := hk4
  clear s4 hk4
  refine kinds_step h "BadTie" "BadWeight" (he.same S) hk (by simp) (by decide +kernel) (by decide +kernel) (fun H5 l5 s5 hk5 => ?_)
  replace S := S.trans s5
  replace hk := hk5
  clear s5 hk5
  refine kinds_step h "Barred" "DivisionByZero" (he.same S) hk (by simp) (by decide +kernel) (by decide +kernel) (fun H6 l6 s6 hk6 => ?_)
  replace S := S.trans s6
  replace hk := hk6
  clear s6 hk6
  refine kinds_step h "Ended" "Flat" (he.same S) hk (by simp) (by decide +kernel) (by decide +kernel) (fun H7 l7 s7 hk7 => ?_)
  replace S := S.trans s7
  replace hk := hk7
  clear s7 hk7
  refine kinds_step h "Loose" "Mismatch" (he.same S) hk (by simp) (by decide +kernel) (by decide +kernel) (fun H8 l8 s8 hk8 => ?_)
  replace S := S.trans s8
  replace hk := hk8
  clear s8 hk8
  refine kinds_step h "NoBall" "NoDeed" (he.same S) hk (by simp) (by decide +kernel) (by decide +kernel) (fun H9 l9 s9 hk9 => ?_)
  replace S := S.trans s9
  replace hk := hk9
  clear s9 hk9
  refine kinds_step h "NoMirror" "NotEven" (he.same S) hk (by simp) (by decide +kernel) (by decide +kernel) (fun H10 l10 s10 hk10 => ?_)
  replace S := S.trans s10
  replace hk := hk10
  clear s10 hk10
  refine kinds_step h "NotPerfect" "NothingToRedo" (he.same S) hk (by simp) (by decide +kernel) (by decide +kernel) (fun H11 l11 s11 hk11 => ?_)
  replace S := S.trans s11
  replace hk := hk11
  clear s11 hk11
  refine kinds_step h "NothingToUndo" "NotPositive" (he.same S) hk (by simp) (by decide +kernel) (by decide +kernel) (fun H12 l12 s12 hk12 => ?_)
  replace S := S.trans s12
  replace hk := hk12
  clear s12 hk12
  refine kinds_step h "NotSymmetric" "NotUnit" (he.same S) hk (by simp) (by decide +kernel) (by decide +kernel) (fun H13 l13 s13 hk13 => ?_)
  replace S := S.trans s13
  replace hk := hk13
  clear s13 hk13
  refine kinds_step h "NotWhole" "Singular" (he.same S) hk (by simp) (by decide +kernel) (by decide +kernel) (fun H14 l14 s14 hk14 => ?_)
  replace S := S.trans s14
  replace hk := hk14
  clear s14 hk14
  refine kinds_step h "Stopped" "TooLarge" (he.same S) hk (by simp) (by decide +kernel) (by decide +kernel) (fun H15 l15 s15 hk15 => ?_)
  replace S := S.trans s15
  replace hk := hk15
  clear s15 hk15
  refine kinds_step h "TooMany" "ZeroRow" (he.same S) hk (by simp) (by decide +kernel) (by decide +kernel) (fun H16 l16 s16 hk16 => ?_)
  replace S := S.trans s16
  replace hk := hk16
  clear s16 hk16
  have key : ∀ y ∈ errN, ((([decide (y = ("BadCount" : Str)), decide (y = ("BadLot" : Str))] ++ [decide (y = ("BadName" : Str)), decide (y = ("BadPlace" : Str))] ++ [decide (y = ("BadSign" : Str)), decide (y = ("BadSize" : Str))] ++ [decide (y = ("BadSizes" : Str)), decide (y = ("BadText" : Str))] ++ [decide (y = ("BadTie" : Str)), decide (y = ("BadWeight" : Str))] ++ [decide (y = ("Barred" : Str)), decide (y = ("DivisionByZero" : Str))] ++ [decide (y = ("Ended" : Str)), decide (y = ("Flat" : Str))] ++ [decide (y = ("Loose" : Str)), decide (y = ("Mismatch" : Str))] ++ [decide (y = ("NoBall" : Str)), decide (y = ("NoDeed" : Str))] ++ [decide (y = ("NoMirror" : Str)), decide (y = ("NotEven" : Str))] ++ [decide (y = ("NotPerfect" : Str)), decide (y = ("NothingToRedo" : Str))] ++ [decide (y = ("NothingToUndo" : Str)), decide (y = ("NotPositive" : Str))] ++ [decide (y = ("NotSymmetric" : Str)), decide (y = ("NotUnit" : Str))] ++ [decide (y = ("NotWhole" : Str)), decide (y = ("Singular" : Str))] ++ [decide (y = ("Stopped" : Str)), decide (y = ("TooLarge" : Str))] ++ [decide (y = ("TooMany" : Str)), decide (y = ("ZeroRow" : Str))] : List Bool)).filter id).length = 1 := by decide +kernel
  have hc := key x hx
  obtain ⟨bs, hb⟩ : ∃ bs : List Bool, bs = [decide (x = ("BadCount" : Str)), decide (x = ("BadLot" : Str))] ++ [decide (x = ("BadName" : Str)), decide (x = ("BadPlace" : Str))] ++ [decide (x = ("BadSign" : Str)), decide (x = ("BadSize" : Str))] ++ [decide (x = ("BadSizes" : Str)), decide (x = ("BadText" : Str))] ++ [decide (x = ("BadTie" : Str)), decide (x = ("BadWeight" : Str))] ++ [decide (x = ("Barred" : Str)), decide (x = ("DivisionByZero" : Str))] ++ [decide (x = ("Ended" : Str)), decide (x = ("Flat" : Str))] ++ [decide (x = ("Loose" : Str)), decide (x = ("Mismatch" : Str))] ++ [decide (x = ("NoBall" : Str)), decide (x = ("NoDeed" : Str))] ++ [decide (x = ("NoMirror" : Str)), decide (x = ("NotEven" : Str))] ++ [decide (x = ("NotPerfect" : Str)), decide (x = ("NothingToRedo" : Str))] ++ [decide (x = ("NothingToUndo" : Str)), decide (x = ("NotPositive" : Str))] ++ [decide (x = ("NotSymmetric" : Str)), decide (x = ("NotUnit" : Str))] ++ [decide (x = ("NotWhole" : Str)), decide (x = ("Singular" : Str))] ++ [decide (x = ("Stopped" : Str)), decide (x = ("TooLarge" : Str))] ++ [decide (x = ("TooMany" : Str)), decide (x = ("ZeroRow" : Str))] := ⟨_, rfl⟩
  rw [← hb] at hk hc
  have hz : bs.length ≤ 40 := by
    rw [hb]
    exact (by decide : 32 ≤ 40)
  clear hb key
  refine ⟨_, rfl, l16, rfl, ⟨_, SqL.of hk⟩, fun D hD => lc_list (K := K) (a := l16) (xs := bs.map V.bl) (fun i H' => H' = upd H16 D (.lst (((bs.take i).filter id).map V.bl))) rfl ?_ ?_ ?_⟩
  · rintro i H' _ rfl
    exact SqL.of (same_upd hD _ _ hk)
  · rintro i v H' hv rfl
    rw [List.getElem?_map] at hv
    cases eb : bs[i]? with
    | none =>
      rw [eb] at hv
      cases hv
    | some b =>
      rw [eb] at hv
      cases hv
      have tk : bs.take (i + 1) = bs.take i ++ [b] := by
        rw [List.take_succ, eb]
        rfl
      have hlen : ((((bs.take i).filter id).map V.bl)).length < sizeLine := small_lt (by
        have := List.length_filter_le id (bs.take i)
        have h2 : (bs.take i).length ≤ bs.length := by
          rw [List.length_take]
          omega
        rw [List.length_map]
        omega)
      cases b with
      | true =>
        refine ⟨rfl, _, rfl, _, rfl, iteT ⟨_, rfl, _, upd_same, hlen, ?_⟩⟩
        show upd _ _ _ = upd _ _ _
        rw [upd_upd, tk, List.filter_append, List.map_append]
        rfl
      | false =>
        refine ⟨rfl, _, rfl, _, rfl, iteF ?_⟩
        show upd _ _ _ = upd _ _ _
        rw [tk, List.filter_append]
        simp
  · rintro H' rfl
    refine ⟨D, _, rfl, .inl (SqL.of upd_same), ?_⟩
    rw [List.length_map, List.length_map, List.take_length, hc]
    exact hq _ (S.trans (same_upd hD))
end
end K0
namespace K0
open PySem PySem.Spec PyProof.Rows L2 He HX KF
section
variable {P : Program} {w : World} {K : PySem.W.Frag} {mg : Str → Option Value} {base : Heap}
def NN__law_low : List PySem.Str := ["num", "den", "common"]
theorem sc__law_low : FnScope NN__law_low ["num", "den"] (defScope (top 57)) := ⟨rfl, rfl, rfl, by decide +kernel, rfl, by decide +kernel, by decide +kernel⟩
theorem ok__law_low (h : HK K mg) (c__law_common : Cal P w K mg base 1 "_law_common" ["one", "two"] (sp__law_common K)) : Cal P w K mg base 2 "_law_low" ["num", "den"] (sp__law_low K) := by
  have F : FunD K "_law_low" "_law_low" (defArgs (top 57)) (defBody (top 57)) (defScope (top 57)) [] [] (ga K "_law_low") (fdA K (ga K "_law_low")) := h.says.funD 33
  have G : FnOk P w K mg base (L2.CX P w) (1 + 1) (ga K "_law_low") (fdA K (ga K "_law_low")) ["num", "den"] (sp__law_low K) := okX F sc__law_low (fun vs H Q E hs => by (repeat (obtain ⟨_, hs⟩ := hs)) <;> subst_vars <;> rfl) (fun cdv A outer s H vs Q E hr hs => ?_)
  · exact ⟨G, h.glo _, F.kp, F.bindsN (fun _ _ _ _ _ _ us hl => match us, hl with | [_, _], _ => rfl)⟩
  refine ⟨_, (pss_cons (ps_set (i := 2) sc__law_low.nd rfl (by first | exact Or.inl rfl | exact Or.inr rfl) (pe_cal c__law_common hr passL (pa_cons (pv 0) (pa_cons (pv 1) pa_nil))))
      (pss_cons (ps_if (pt_cmpR op_lt (pv 1) pe_int (nomark _))
        (pss_one (ps_set (i := 2) sc__law_low.nd rfl (by first | exact Or.inl rfl | exact Or.inr rfl) (pe_un un_neg (pv 2))))
        pss_nil)
      (pss_one (ps_ret (pe_tup (pa_cons (pe_op op_fdivX (pv 0) (pv 2)) (pa_cons (pe_op op_fdivX (pv 1) (pv 2)) pa_nil))))))), ?_⟩
  obtain ⟨n, d, rfl, e, hb, hq⟩ := hs
  have g := gs_ne (a := n) e
  have bg := Bd.gs (a := n) hb e
  rw [← fdiv_gsN, ← fdiv_gsD] at hq
  refine ⟨_, rfl, _, rfl, n, d, rfl, _, rfl, _, _, rfl, rfl, _, rfl, ite2 (fun c2 => ?_) (fun c2 => ?_)⟩
  · have c3 : d < 0 := by simpa using c2
    refine ⟨_, rfl, _, rfl, ?_⟩
    dsimp only
    rw [show -gi n d = gs n d by unfold gs; rw [if_pos c3]]
    exact ⟨_, rfl, _, rfl, _, _, rfl, rfl, bg.divX g, _, rfl, _, rfl, _, _, rfl, rfl, bg.divX g, two_size, hq⟩
  · have c3 : ¬ d < 0 := by simpa using c2
    dsimp only [tNext]
    rw [show gi n d = gs n d by unfold gs; rw [if_neg c3]]
    exact ⟨_, rfl, _, rfl, _, _, rfl, rfl, bg.divX g, _, rfl, _, rfl, _, _, rfl, rfl, bg.divX g, two_size, hq⟩
end
end K0
namespace K0
open PySem PySem.Spec PyProof.Rows L2 He HX KF
section
variable {P : Program} {w : World} {K : PySem.W.Frag} {mg : Str → Option Value} {base : Heap}
def NN__law_made : List PySem.Str := ["one"]
theorem sc__law_made : FnScope NN__law_made ["one"] (defScope (top 62)) := ⟨rfl, rfl, rfl, by decide +kernel, rfl, by decide +kernel, by decide +kernel⟩
theorem ok__law_made (h : HK K mg) (c_FR : CalF P w K mg base) : Cal P w K mg base 5 "_law_made" ["one"] (sp__law_made K) := by
  have F : FunD K "_law_made" "_law_made" (defArgs (top 62)) (defBody (top 62)) (defScope (top 62)) [] [] (ga K "_law_made") (fdA K (ga K "_law_made")) := h.says.funD 38
  have G : FnOk P w K mg base (L2.CX P w) (4 + 1) (ga K "_law_made") (fdA K (ga K "_law_made")) ["one"] (sp__law_made K) := okX F sc__law_made (fun vs H Q E hs => by (repeat (obtain ⟨_, hs⟩ := hs)) <;> subst_vars <;> rfl) (fun cdv A outer s H vs Q E hr hs => ?_)
  · exact ⟨G, h.glo _, F.kp, F.bindsN (fun _ _ _ _ _ _ us hl => match us, hl with | [_], _ => rfl)⟩
  refine ⟨_, (pss_cons (ps_if (pt_val (pe_ix ix_tup (pv 0) pe_int (fun _ _ => rfl)))
        (pss_one (ps_ret (pe_ix ix_tup (pv 0) pe_int (fun _ _ => rfl))))
        pss_nil)
      (pss_one (ps_ret (pe_fr2 c_FR hr (pa_cons (pe_ix ix_tup (pv 0) pe_int (fun _ _ => rfl)) (pa_cons (pe_ix ix_tup (pv 0) pe_int (fun _ _ => rfl)) pa_nil)))))), ?_⟩
  obtain ⟨a, n, d, fl, rfl, ⟨ha, hd, ln, ld, hf⟩, hq⟩ := hs
  have bd : Bd 1000 d := Nat.lt_of_le_of_lt (show d.natAbs ≤ 10 ^ 12 from ld) (Nat.lt_of_lt_of_le (show 10 ^ 12 < 2 ^ 40 by decide) (Nat.pow_le_pow_right (by decide) (by decide)))
  refine ⟨_, rfl, a, _, _, _, rfl, rfl, ha, atI_nat (j := 2) rfl, _, rfl, ite2 (fun c => ?_) (fun c => ?_)⟩
  · refine ⟨_, rfl, a, _, _, _, rfl, rfl, ha, atI_nat (j := 0) rfl, hq H _ (Same.refl H) ⟨fun _ => rfl, fun z => ?_⟩⟩
    rw [c] at z
    cases z
  · refine ⟨_, rfl, a, _, _, _, rfl, rfl, ha, atI_nat (j := 0) rfl, _, rfl, a, _, _, _, rfl, rfl, ha, atI_nat (j := 1) rfl, n, d, rfl, hd, bd, fun H' q' s2 _ f => hq H' _ s2 ⟨fun z => absurd z c, fun _ => ⟨q', rfl, f⟩⟩⟩
end
end K0
namespace K0
open PySem PySem.Spec PyProof.Rows L2 He HX KF
section
variable {P : Program} {w : World} {K : PySem.W.Frag} {mg : Str → Option Value} {base : Heap}
def NN__law_number : List PySem.Str := ["pool", "way", "edges", "sign", "num", "times"]
theorem sc__law_number : FnScope NN__law_number ["pool"] (defScope (top 60)) := ⟨rfl, rfl, rfl, by decide +kernel, rfl, by decide +kernel, by decide +kernel⟩
theorem ok__law_number (h : HK K mg) (c__law_draw : Cal P w K mg base 1 "_law_draw" ["pool", "many"] (sp__law_draw K)) : Cal P w K mg base 2 "_law_number" ["pool"] (sp__law_number K) := by
  have F : FunD K "_law_number" "_law_number" (defArgs (top 60)) (defBody (top 60)) (defScope (top 60)) [] [] (ga K "_law_number") (fdA K (ga K "_law_number")) := h.says.funD 36
  have G : FnOk P w K mg base (L2.CX P w) (1 + 1) (ga K "_law_number") (fdA K (ga K "_law_number")) ["pool"] (sp__law_number K) := okX F sc__law_number (fun vs H Q E hs => by (repeat (obtain ⟨_, hs⟩ := hs)) <;> subst_vars <;> rfl) (fun cdv A outer s H vs Q E hr hs => ?_)
  · exact ⟨G, h.glo _, F.kp, F.bindsN (fun _ _ _ _ _ _ us hl => match us, hl with | [_], _ => rfl)⟩
  refine ⟨_, (pss_cons (ps_set (i := 1) sc__law_number.nd rfl (by first | exact Or.inl rfl | exact Or.inr rfl) (pe_cal c__law_draw hr passL (pa_cons (pv 0) (pa_cons pe_int pa_nil))))
      (pss_cons (ps_if (pt_cmpR op_eq (pv 1) pe_int (nomark _))
        (pss_cons (ps_set (i := 2) sc__law_number.nd rfl (by first | exact Or.inl rfl | exact Or.inr rfl) (pe_lst (pa_cons pe_int (pa_cons pe_int (pa_cons (pe_un un_neg pe_int) (pa_cons (pe_op op_pow pe_int pe_int) (pa_cons (pe_un un_neg (pe_op op_pow pe_int pe_int)) (pa_cons pe_int (pa_cons pe_int pa_nil)))))))))
        (pss_one (ps_ret (pe_tup (pa_cons (pe_ix ix_list (pv 2) (pe_cal c__law_draw hr passL (pa_cons (pv 0) (pa_cons pe_int pa_nil))) (fun _ _ => rfl)) (pa_cons pe_int (pa_cons pe_bl pa_nil)))))))
        pss_nil)
      (pss_cons (ps_set (i := 3) sc__law_number.nd rfl (by first | exact Or.inl rfl | exact Or.inr rfl) (pe_op op_sub pe_int (pe_op op_mulW pe_int (pe_cal c__law_draw hr passL (pa_cons (pv 0) (pa_cons pe_int pa_nil))))))
      (pss_cons (ps_if (pt_cmpR op_eq (pv 1) pe_int (nomark _))
        (pss_one (ps_ret (pe_tup (pa_cons (pe_op op_mulW (pv 3) (pe_cal c__law_draw hr passL (pa_cons (pv 0) (pa_cons (pe_op op_add (pe_op op_pow pe_int pe_int) pe_int) pa_nil)))) (pa_cons pe_int (pa_cons pe_bl pa_nil))))))
        pss_nil)
      (pss_cons (ps_if (pt_cmpR op_eq (pv 1) pe_int (nomark _))
        (pss_cons (ps_set (i := 4) sc__law_number.nd rfl (by first | exact Or.inl rfl | exact Or.inr rfl) (pe_op op_mulW (pv 3) (pe_cal c__law_draw hr passL (pa_cons (pv 0) (pa_cons (pe_op op_add (pe_op op_pow pe_int pe_int) pe_int) pa_nil)))))
        (pss_one (ps_ret (pe_tup (pa_cons (pv 4) (pa_cons (pe_op op_mulW (pe_op op_sub pe_int (pe_op op_mulW pe_int (pe_cal c__law_draw hr passL (pa_cons (pv 0) (pa_cons pe_int pa_nil))))) (pe_op op_add pe_int (pe_cal c__law_draw hr passL (pa_cons (pv 0) (pa_cons (pe_op op_pow pe_int pe_int) pa_nil))))) (pa_cons pe_bl pa_nil)))))))
        pss_nil)
      (pss_cons (ps_set (i := 5) sc__law_number.nd rfl (by first | exact Or.inl rfl | exact Or.inr rfl) (pe_op op_add pe_int (pe_cal c__law_draw hr passL (pa_cons (pv 0) (pa_cons pe_int pa_nil)))))
      (pss_cons (ps_if (pt_cmpR op_eq (pv 1) pe_int (nomark _))
        (pss_one (ps_set (i := 5) sc__law_number.nd rfl (by first | exact Or.inl rfl | exact Or.inr rfl) (pe_op op_add pe_int (pe_cal c__law_draw hr passL (pa_cons (pv 0) (pa_cons (pe_op op_pow pe_int pe_int) pa_nil))))))
        pss_nil)
      (pss_cons (ps_set (i := 4) sc__law_number.nd rfl (by first | exact Or.inl rfl | exact Or.inr rfl) (pe_op op_mulW (pe_op op_sub (pe_cal c__law_draw hr passL (pa_cons (pv 0) (pa_cons pe_int pa_nil))) pe_int) (pv 5)))
      (pss_cons (ps_if (pt_cmpR op_eq (pv 1) pe_int (nomark _))
        (pss_one (ps_ret (pe_tup (pa_cons (pv 4) (pa_cons pe_int (pa_cons pe_bl pa_nil))))))
        pss_nil)
      (pss_one (ps_ret (pe_tup (pa_cons (pv 4) (pa_cons (pe_op op_mulW (pe_op op_mulW (pv 3) (pe_op op_add pe_int (pe_cal c__law_draw hr passL (pa_cons (pv 0) (pa_cons pe_int pa_nil))))) (pv 5)) (pa_cons pe_bl pa_nil))))))))))))))), ?_⟩
  obtain ⟨p, rfl, hp, hq⟩ := hs
  have i12 : (10 : Int) ^ (12 : Int).toNat = 1000000000000 := by decide
  have i10 : (10 : Int) ^ (10 : Int).toNat = 10000000000 := by decide
  have l12 : ∀ {x : Int}, -1000000000000 ≤ x → x ≤ 1000000000000 → L12 x := fun {x} a b => by
    unfold L12
    have : (10 : Nat) ^ 12 = 1000000000000 := by decide
    omega
  have cp12 : CPow 10 12 := ⟨by decide, by decide, by decide⟩
  have fin : ∀ (H' : Hp) (t : Addr) (n d : Int) (fl : Bool), PoolTo p H H' → H' t = none → d ≠ 0 → L12 n → L12 d → (fl = true → d = 1) → Q (.ref t) (upd H' t (.tup [.int n, .int d, .bl fl])) := fun H' t n d fl a b c1 c2 c3 c4 =>
    hq _ t n d fl (a.upd b) ⟨SqT.of upd_same, c1, c2, c3, c4⟩
  refine ⟨_, rfl, p, _, rfl, hp, by decide, bd64 (by decide), fun H1 w t1 w0 w8 => ?_⟩
  refine ⟨_, rfl, rfl, _, rfl, ite2 (fun c => ?_) (fun c => ?_)⟩
  · refine ⟨_, rfl, _, _, rfl, rfl, cp12, _, _, rfl, rfl, cp12, _, rfl, small_size (show 7 ≤ 1000 by decide), fun l hl => ?_⟩
    have t2 := t1.upd (o := .lst [.int 0, .int 1, .int (-1), .int (10 ^ (12 : Int).toNat), .int (-(10 ^ (12 : Int).toNat)), .int 999999999999, .int 0]) hl
    refine ⟨_, rfl, _, rfl, p, _, rfl, t2.2, by decide, bd64 (by decide), fun H3 i t3 i0 i7 => ?_⟩
    have hl3 : H3 l = some (.lst [.int 0, .int 1, .int (-1), .int (10 ^ (12 : Int).toNat), .int (-(10 ^ (12 : Int).toNat)), .int 999999999999, .int 0]) := t3.1 l _ (fun z => by
      obtain ⟨xs, e, _⟩ := t1.2
      rw [z, e] at hl
      cases hl) upd_same
    have T := t2.trans t3
    rcases (show i = 0 ∨ i = 1 ∨ i = 2 ∨ i = 3 ∨ i = 4 ∨ i = 5 ∨ i = 6 by omega) with e | e | e | e | e | e | e <;> subst e
    · exact ⟨l, _, _, _, rfl, rfl, SqL.of hl3, atI_nat (j := 0) rfl, small_size (show 3 ≤ 1000 by decide), fun t ht => fin _ t _ _ _ T ht (by decide) (l12 (by decide) (by decide)) (l12 (by decide) (by decide)) (fun _ => rfl)⟩
    · exact ⟨l, _, _, _, rfl, rfl, SqL.of hl3, atI_nat (j := 1) rfl, small_size (show 3 ≤ 1000 by decide), fun t ht => fin _ t _ _ _ T ht (by decide) (l12 (by decide) (by decide)) (l12 (by decide) (by decide)) (fun _ => rfl)⟩
    · exact ⟨l, _, _, _, rfl, rfl, SqL.of hl3, atI_nat (j := 2) rfl, small_size (show 3 ≤ 1000 by decide), fun t ht => fin _ t _ _ _ T ht (by decide) (l12 (by decide) (by decide)) (l12 (by decide) (by decide)) (fun _ => rfl)⟩
    · exact ⟨l, _, _, _, rfl, rfl, SqL.of hl3, atI_nat (j := 3) rfl, small_size (show 3 ≤ 1000 by decide), fun t ht => fin _ t _ _ _ T ht (by decide) (l12 (by decide) (by decide)) (l12 (by decide) (by decide)) (fun _ => rfl)⟩
    · exact ⟨l, _, _, _, rfl, rfl, SqL.of hl3, atI_nat (j := 4) rfl, small_size (show 3 ≤ 1000 by decide), fun t ht => fin _ t _ _ _ T ht (by decide) (l12 (by decide) (by decide)) (l12 (by decide) (by decide)) (fun _ => rfl)⟩
    · exact ⟨l, _, _, _, rfl, rfl, SqL.of hl3, atI_nat (j := 5) rfl, small_size (show 3 ≤ 1000 by decide), fun t ht => fin _ t _ _ _ T ht (by decide) (l12 (by decide) (by decide)) (l12 (by decide) (by decide)) (fun _ => rfl)⟩
    · exact ⟨l, _, _, _, rfl, rfl, SqL.of hl3, atI_nat (j := 6) rfl, small_size (show 3 ≤ 1000 by decide), fun t ht => fin _ t _ _ _ T ht (by decide) (l12 (by decide) (by decide)) (l12 (by decide) (by decide)) (fun _ => rfl)⟩
  -- sign
  refine ⟨_, rfl, p, _, rfl, t1.2, by decide, bd64 (by decide), fun H2 b t2 b0 b2 => ⟨_, _, rfl, rfl, Bd.mulW (a := 2) (b := 2) (by unfold Bd; decide) (bd_of b0 b2 (by decide)), _, _, rfl, rfl, ?_⟩⟩
  have T2 := t1.trans t2
  have hsg : ∃ sg : Int, sg = 1 - 2 * b ∧ (sg = 1 ∨ sg = -1) := ⟨_, rfl, by omega⟩
  obtain ⟨sg, esg, hsg⟩ := hsg
  dsimp only
  rw [← esg]
  have bsg : Bd 2 sg := by
    unfold Bd
    rcases hsg with e | e <;> rw [e] <;> decide
  -- way 1
  refine ⟨_, rfl, rfl, _, rfl, ite2 (fun c => ?_) (fun c => ?_)⟩
  · refine ⟨_, rfl, _, rfl, _, _, rfl, rfl, cp12, _, _, rfl, rfl, p, _, rfl, T2.2, by decide, bd64 (by decide), fun H3 v t3 v0 v1 => ⟨_, _, rfl, rfl, Bd.mulW (b := 60) bsg (bd_of v0 v1 (by decide)), small_size (show 3 ≤ 1000 by decide), fun t ht => fin _ t _ _ _ (T2.trans t3) ht (by decide) ?_ (l12 (by decide) (by decide)) (fun _ => rfl)⟩⟩
    rw [i12] at v1
    rcases hsg with e | e <;> subst e
    · exact l12 (by omega) (by omega)
    · exact l12 (by omega) (by omega)
  -- way 2
  refine ⟨_, rfl, rfl, _, rfl, ite2 (fun c => ?_) (fun c => ?_)⟩
  · refine ⟨_, rfl, _, rfl, _, _, rfl, rfl, cp12, _, _, rfl, rfl, p, _, rfl, T2.2, by decide, bd64 (by decide), fun H3 v t3 v0 v1 => ⟨_, _, rfl, rfl, Bd.mulW (b := 60) bsg (bd_of v0 v1 (by decide)), ?_⟩⟩
    have ln : L12 (sg * v) := by
      rw [i12] at v1
      rcases hsg with e | e <;> subst e
      · exact l12 (by omega) (by omega)
      · exact l12 (by omega) (by omega)
    refine ⟨_, rfl, _, rfl, p, _, rfl, t3.2, by decide, bd64 (by decide), fun H4 b' t4 b0' b2' => ⟨_, _, rfl, rfl, Bd.mulW (a := 2) (b := 2) (by unfold Bd; decide) (bd_of b0' b2' (by decide)), _, _, rfl, rfl, ?_⟩⟩
    refine ⟨_, rfl, _, _, rfl, rfl, cp12, p, _, rfl, t4.2, by decide, bd64 (by decide), fun H5 u t5 u0 u1 => ⟨_, _, rfl, rfl, _, _, rfl, rfl, ?_⟩⟩
    rw [i12] at u1
    have bs : Bd 2 (1 - 2 * b') := by
      unfold Bd
      omega
    refine ⟨Bd.mulW (b := 60) bs (bd_of (m := 1000000000001) (by omega) (by omega) (by decide)), small_size (show 3 ≤ 1000 by decide), fun t ht => fin _ t _ _ _ (((T2.trans t3).trans t4).trans t5) ht ?_ ln ?_ (fun z => by cases z)⟩
    · rcases (show b' = 0 ∨ b' = 1 by omega) with e | e <;> subst e <;> omega
    · rcases (show b' = 0 ∨ b' = 1 by omega) with e | e <;> subst e
      · exact l12 (by omega) (by omega)
      · exact l12 (by omega) (by omega)
  -- times
  refine ⟨_, rfl, p, _, rfl, T2.2, by decide, bd64 (by decide), fun H3 u t3 u0 u1 => ⟨_, _, rfl, rfl, ?_⟩⟩
  have key : ∀ (H4 : Hp) (tm : Int), PoolTo p H H4 → 1 ≤ tm → tm ≤ 10000000000 → tSeq (tAsg (tOp (rI CMulW fun i j => .int (i * j)) (tOp (rI0 fun i j => .int (i - j)) (tCall (sp__law_draw K) [] E0 (tCons (tVar 0) (tCons (tC (.int 25)) tNil))) (tC (.int 12))) (tVar 5)) (gName 4))
      (tSeq (tIfS (tTest (tOp rEq (tVar 1) (tC (.int 4)))) (tRet (tTup (tCons (tVar 4) (tCons (tC (.int 1)) (tCons (tC (.bl true)) tNil))))) tNext)
        (tRet (tTup (tCons (tVar 4) (tCons (tOp (rI CMulW fun i j => .int (i * j)) (tOp (rI CMulW fun i j => .int (i * j)) (tVar 3) (tOp (rI0 fun i j => .int (i + j)) (tC (.int 1)) (tCall (sp__law_draw K) [] E0 (tCons (tVar 0) (tCons (tC (.int 12)) tNil))))) (tVar 5)) (tCons (tC (.bl false)) tNil))))))
      { nx := fun _ H' => Q .non H', rt := Q } [some (.ref p), some (.int w), none, some (.int sg), none, some (.int tm)] H4 := fun H4 tm T4 m1 m2 => by
    refine ⟨_, rfl, p, _, rfl, T4.2, by decide, bd64 (by decide), fun H5 v t5 v0 v1 => ⟨_, _, rfl, rfl, _, rfl, _, _, rfl, rfl, Bd.mulW (a := 60) (b := 60) ?_ (bd_of (m := 10000000001) (by omega) (by omega) (by decide)), ?_⟩⟩
    · unfold Bd
      omega
    have T5 := T4.trans t5
    have ln : L12 ((v - 12) * tm) := by
      have h1 : (v - 12) * tm ≤ 12 * tm := Int.mul_le_mul_of_nonneg_right (by omega) (by omega)
      have h2 : -12 * tm ≤ (v - 12) * tm := Int.mul_le_mul_of_nonneg_right (by omega) (by omega)
      exact l12 (by omega) (by omega)
    refine ⟨_, rfl, rfl, _, rfl, ite2 (fun c => ?_) (fun c => ?_)⟩
    · exact ⟨_, rfl, small_size (show 3 ≤ 1000 by decide), fun t ht => fin _ t _ _ _ T5 ht (by decide) ln (l12 (by decide) (by decide)) (fun _ => rfl)⟩
    · refine ⟨_, rfl, _, rfl, _, rfl, p, _, rfl, T5.2, by decide, bd64 (by decide), fun H6 z t6 z0 z1 => ⟨_, _, rfl, rfl, _, _, rfl, rfl, Bd.mulW (b := 60) bsg (bd_of (m := 13) (by omega) (by omega) (by decide)), _, rfl, _, _, rfl, rfl, ?_⟩⟩
      have bz : Bd 60 (sg * (1 + z)) := (Bd.mul (b := 50) bsg (bd_of (m := 13) (by omega) (by omega) (by decide))).mono (by decide)
      refine ⟨Bd.mulW (b := 60) bz (bd_of (m := 10000000001) (by omega) (by omega) (by decide)), small_size (show 3 ≤ 1000 by decide), fun t ht => fin _ t _ _ _ (T5.trans t6) ht ?_ ln ?_ (fun z => by cases z)⟩
      · refine Int.mul_ne_zero (Int.mul_ne_zero (by omega) (by omega)) (by omega)
      · have h1 : (1 + z) * tm ≤ 12 * tm := Int.mul_le_mul_of_nonneg_right (by omega) (by omega)
        have h2 : 0 ≤ (1 + z) * tm := Int.mul_nonneg (by omega) (by omega)
        rw [Int.mul_assoc]
        rcases hsg with e | e <;> subst e
        · exact l12 (by omega) (by omega)
        · exact l12 (by omega) (by omega)
  refine ⟨_, rfl, rfl, _, rfl, ite2 (fun c => ?_) (fun c => ?_)⟩
  · refine ⟨_, rfl, _, _, rfl, rfl, ⟨by decide, by decide, by decide⟩, p, _, rfl, t3.2, by decide, bd64 (by decide), fun H4 u' t4 u0' u1' => ⟨_, _, rfl, rfl, ?_⟩⟩
    rw [i10] at u1'
    exact key H4 (1 + u') ((T2.trans t3).trans t4) (by omega) (by omega)
  · exact key H3 (1 + u) (T2.trans t3) (by omega) (by omega)
end
end K0
namespace K0
open PySem PySem.Spec PyProof.Rows L2 He HX KF
section
variable {P : Program} {w : World} {K : PySem.W.Frag} {mg : Str → Option Value} {base : Heap}
def NN__law_one : List PySem.Str := ["one", "num", "den", "frac", "low"]
theorem sc__law_one : FnScope NN__law_one ["one"] (defScope (top 65)) := ⟨rfl, rfl, rfl, by decide +kernel, rfl, by decide +kernel, by decide +kernel⟩
theorem ok__law_one (h : HK K mg) (ff : FF K) (c_FR : CalF P w K mg base) (c_Fracd_absd : CalM P w K mg base 5 (fC K) "__abs__" ["self"] (sp_Fracd_absd K)) (c_Fracd_boold : CalM P w K mg base 1 (fC K) "__bool__" ["self"] (sp_Fracd_boold K)) (c_Fracd_eqd : CalM P w K mg base 1 (fC K) "__eq__" ["self", "other"] (sp_Fracd_eqd K)) (c_Fracd_negd : CalM P w K mg base 5 (fC K) "__neg__" ["self"] (sp_Fracd_negd K)) (c_Fracd_strd : CalM P w K mg base 2 (fC K) "__str__" ["self"] (sp_Fracd_strd K)) (c_Frac_floor : CalM P w K mg base 1 (fC K) "floor" ["self"] (sp_Frac_floor K)) (c_Frac_of : CalS P w K mg base 5 "Frac" "of" ["number"] (sp_Frac_of K)) (c_Frac_rest : CalM P w K mg base 5 (fC K) "rest" ["self"] (sp_Frac_rest K)) (c__law_is : Cal P w K mg base 3 "_law_is" ["told", "num", "den"] (sp__law_is K)) (c__law_low : Cal P w K mg base 2 "_law_low" ["num", "den"] (sp__law_low K)) (c__law_made : Cal P w K mg base 5 "_law_made" ["one"] (sp__law_made K)) (c__law_text : Cal P w K mg base 1 "_law_text" ["low"] (sp__law_text K)) (c__law_truth : Cal P w K mg base 1 "_law_truth" ["told", "due"] (sp__law_truth K)) (c__law_whole : CalW P w K mg base 1 "_law_whole" ["told"] (sp__law_whole K)) : Cal P w K mg base 8 "_law_one" ["one"] (sp__law_one K) := by
  have F : FunD K "_law_one" "_law_one" (defArgs (top 65)) (defBody (top 65)) (defScope (top 65)) [] [] (ga K "_law_one") (fdA K (ga K "_law_one")) := h.says.funD 41
  have G : FnOk P w K mg base (L2.CX P w) (7 + 1) (ga K "_law_one") (fdA K (ga K "_law_one")) ["one"] (sp__law_one K) := okX F sc__law_one (fun vs H Q E hs => by (repeat (obtain ⟨_, hs⟩ := hs)) <;> subst_vars <;> rfl) (fun cdv A outer s H vs Q E hr hs => ?_)
  · exact ⟨G, h.glo _, F.kp, F.bindsN (fun _ _ _ _ _ _ us hl => match us, hl with | [_], _ => rfl)⟩
  refine ⟨_, (pss_cons (ps_set (i := 1) sc__law_one.nd rfl (by first | exact Or.inl rfl | exact Or.inr rfl) (pe_ix ix_tup (pv 0) pe_int (fun _ _ => rfl)))
      (pss_cons (ps_set (i := 2) sc__law_one.nd rfl (by first | exact Or.inl rfl | exact Or.inr rfl) (pe_ix ix_tup (pv 0) pe_int (fun _ _ => rfl)))
      (pss_cons (ps_set (i := 3) sc__law_one.nd rfl (by first | exact Or.inl rfl | exact Or.inr rfl) (pe_fr2 c_FR hr (pa_cons (pv 1) (pa_cons (pv 2) pa_nil))))
      (pss_cons (ps_set (i := 4) sc__law_one.nd rfl (by first | exact Or.inl rfl | exact Or.inr rfl) (pe_cal c__law_low hr passL (pa_cons (pv 1) (pa_cons (pv 2) pa_nil))))
      (pss_cons (ps_if (PW.pt (pw_or (pt_not (pt_val (pe_cal c__law_is hr passL (pa_cons (pv 3) (pa_cons (pv 1) (pa_cons (pv 2) pa_nil)))))) (pw_or1 (pt_not (pt_val (pe_cal c__law_is hr passL (pa_cons (pe_fr1 c_FR hr (pa_cons (pv 1) pa_nil)) (pa_cons (pv 1) (pa_cons pe_int pa_nil)))))))))
        (pss_one (ps_ret pe_bl))
        pss_nil)
      (pss_cons (ps_if (PW.pt (pw_or (pt_not (pt_val (pe_cal c__law_is hr passL (pa_cons (pe_un (un_ownN c_Fracd_negd.mt.at_ c_Fracd_negd.mt.fn c_Fracd_negd.ok (hr.mono (by decide)) c_Fracd_negd.b passL) (pv 3)) (pa_cons (pe_un un_neg (pv 1)) (pa_cons (pv 2) pa_nil)))))) (pw_or1 (pt_not (pt_val (pe_cal c__law_is hr passL (pa_cons (pe_callB (call_ownAbs c_Fracd_absd.mt.at_ c_Fracd_absd.mt.fn c_Fracd_absd.ok (hr.mono (by decide)) c_Fracd_absd.b passL) (by rfl) (h.free "abs") (by decide +kernel) (pa_cons (pv 3) pa_nil)) (pa_cons (pe_callB call_abs (by rfl) (h.free "abs") (by decide +kernel) (pa_cons (pv 1) pa_nil)) (pa_cons (pe_callB call_abs (by rfl) (h.free "abs") (by decide +kernel) (pa_cons (pv 2) pa_nil)) pa_nil)))))))))
        (pss_one (ps_ret pe_bl))
        pss_nil)
      (pss_cons (ps_if (PW.pt (pw_or (pt_not (pt_val (pe_cal c__law_truth hr passL (pa_cons (pe_callTy (call_ownBool c_Fracd_boold.mt.at_ c_Fracd_boold.mt.fn c_Fracd_boold.ok (hr.mono (by decide)) c_Fracd_boold.b passL) (by rfl) (h.free "bool") (by decide +kernel) (pa_cons (pv 3) pa_nil)) (pa_cons (pe_cmpR op_ne (pv 1) pe_int (nomark _)) pa_nil))))) (pw_or1 (pt_cmpR op_ne (pe_callTy (call_ownStr c_Fracd_strd.mt.at_ c_Fracd_strd.mt.fn c_Fracd_strd.ok (hr.mono (by decide)) c_Fracd_strd.b passL) (by rfl) (h.free "str") (by decide +kernel) (pa_cons (pv 3) pa_nil)) (pe_cal c__law_text hr passL (pa_cons (pv 4) pa_nil)) (nomark _)))))
        (pss_one (ps_ret pe_bl))
        pss_nil)
      (pss_cons (ps_if (PW.pt (pw_or (pt_not (pt_val (pe_callB call_isi (by rfl) (h.free "isinstance") (by decide +kernel) (pa_cons (pe_callTy (call_ownStr c_Fracd_strd.mt.at_ c_Fracd_strd.mt.fn c_Fracd_strd.ok (hr.mono (by decide)) c_Fracd_strd.b passL) (by rfl) (h.free "str") (by decide +kernel) (pa_cons (pv 3) pa_nil)) (pa_cons (pe_bltn (v := .ty "str") (by rfl) (h.free "str") (by decide +kernel) rfl) pa_nil))))) (pw_or1 (pt_not (pt_val (pe_cal c__law_truth hr passL (pa_cons (pe_cmpR (op_ownEq ff.own c_Fracd_eqd.mt.at_ c_Fracd_eqd.mt.fn c_Fracd_eqd.ok (hr.mono (by decide)) c_Fracd_eqd.b passL) (pv 3) (pe_callTy (call_ownStr c_Fracd_strd.mt.at_ c_Fracd_strd.mt.fn c_Fracd_strd.ok (hr.mono (by decide)) c_Fracd_strd.b passL) (by rfl) (h.free "str") (by decide +kernel) (pa_cons (pv 3) pa_nil)) (nomark _)) (pa_cons pe_bl pa_nil))))))))
        (pss_one (ps_ret pe_bl))
        pss_nil)
      (pss_cons (ps_if (PW.pt (pw_or (pt_not (pt_val (pe_cal c__law_whole.cal hr passL (pa_cons (pe_calM0 c_Frac_floor hr passL (pv 3)) pa_nil)))) (pw_or1 (pt_cmpR op_ne (pe_calM0 c_Frac_floor hr passL (pv 3)) (pe_op op_fdivX (pe_ix ix_tup (pv 4) pe_int (fun _ _ => rfl)) (pe_ix ix_tup (pv 4) pe_int (fun _ _ => rfl))) (nomark _)))))
        (pss_one (ps_ret pe_bl))
        pss_nil)
      (pss_cons (ps_if (pt_not (pt_val (pe_cal c__law_is hr passL (pa_cons (pe_calM0 c_Frac_rest hr passL (pv 3)) (pa_cons (pe_op op_modN (pe_callTy call_int1 (by rfl) (h.free "int") (by decide +kernel) (pa_cons (pe_ix ix_tup (pv 4) pe_int (fun _ _ => rfl)) pa_nil)) (pe_ix ix_tup (pv 4) pe_int (fun _ _ => rfl))) (pa_cons (pe_ix ix_tup (pv 4) pe_int (fun _ _ => rfl)) pa_nil))))))
        (pss_one (ps_ret pe_bl))
        pss_nil)
      (pss_cons (ps_if (pt_not (pt_val (pe_cal c__law_is hr passL (pa_cons (pe_calS c_Frac_of hr passL (pa_cons (pe_cal c__law_made hr passL (pa_cons (pv 0) pa_nil)) pa_nil)) (pa_cons (pv 1) (pa_cons (pv 2) pa_nil))))))
        (pss_one (ps_ret pe_bl))
        pss_nil)
      (pss_one (ps_ret (pe_and (pe_cal c__law_is hr passL (pa_cons (pe_calS c_Frac_of hr passL (pa_cons (pv 3) pa_nil)) (pa_cons (pv 1) (pa_cons (pv 2) pa_nil)))) (pe_one (pe_cal c__law_is hr passL (pa_cons (pv 3) (pa_cons (pv 1) (pa_cons (pv 2) pa_nil))))))))))))))))))), ?_⟩
  obtain ⟨a, n, d, fl, rfl, hone, hq⟩ := hs
  obtain ⟨ha, hd, ln, ld, hf⟩ := id hone
  have ff := h.ff
  have bd := b1000 ld
  have rt := rtLow hd ln ld
  have b1 : Bd 45 (lowN n d) := ((bd40 ln).lowN hd).mono (by decide)
  have b2 : Bd 45 (lowD n d) := ((bd40 ld).lowD hd).mono (by decide)
  refine ⟨_, rfl, a, _, _, _, rfl, rfl, ha, atI_nat (j := 0) rfl, _, rfl, a, _, _, _, rfl, rfl, ha, atI_nat (j := 1) rfl, ?_⟩
  refine ⟨_, rfl, _, rfl, n, d, rfl, hd, bd, fun H1 q s1 nq fq => ⟨_, rfl, _, rfl, n, d, rfl, hd, bd, fun t ht => ?_⟩⟩
  have s2 := same_upd (o := .tup [.int (lowN n d), .int (lowD n d)]) ht
  obtain ⟨dx, hF⟩ := fq.same s2
  have hT : SqT K (upd H1 t (.tup [.int (lowN n d), .int (lowD n d)])) t [.int (lowN n d), .int (lowD n d)] := SqT.of upd_same
  have S0 : Same H (upd H1 t (.tup [.int (lowN n d), .int (lowD n d)])) := s1.trans s2
  generalize (upd H1 t (.tup [.int (lowN n d), .int (lowD n d)])) = H2 at *
  clear s2 s1 fq
  -- 1
  refine ⟨_, rfl, _, rfl, _, rfl, q, n, d, rfl, hd, bd, ⟨dx, hF⟩, fun H3 s3 => ⟨_, rfl, iteF ?_⟩⟩
  refine ⟨_, rfl, n, rfl, fun H4 q4 s4 _ f4 => ⟨_, rfl, q4, n, 1, rfl, by decide, bd1, (by rw [(low_one n).1, (low_one n).2]; exact f4), fun H5 s5 => ⟨_, rfl, iteF ?_⟩⟩⟩
  have S5 := (s3.trans s4).trans s5
  -- 2
  refine ⟨_, rfl, q, dx, _, rfl, S5 _ _ hF, q, _, _, rfl, ⟨dx, S5 _ _ hF⟩, rt, fun H6 q6 s6 f6 => ⟨_, rfl, _, rfl, _, rfl, q6, -n, d, rfl, hd, bd, ?_, fun H7 s7 => ⟨_, rfl, iteF ?_⟩⟩⟩
  · rw [(low_neg hd).1, (low_neg hd).2] at f6
    exact f6
  have S7 := (S5.trans s6).trans s7
  have bad : Bd 1000 (if d < 0 then -d else d) := by
    split
    · exact bd.neg
    · exact bd
  refine ⟨_, rfl, q, dx, _, rfl, S7 _ _ hF, q, _, _, rfl, ⟨dx, S7 _ _ hF⟩, rt, fun H8 q8 s8 f8 => ⟨_, rfl, _, rfl, _, rfl, _, rfl, q8, _, _, rfl, by split <;> omega, bad, ?_, fun H9 s9 => ⟨_, rfl, iteF ?_⟩⟩⟩
  · rw [(low_abs hd).1, (low_abs hd).2] at f8
    exact f8
  have S9 := (S7.trans s8).trans s9
  -- 3
  refine ⟨_, rfl, q, dx, _, rfl, S9 _ _ hF, q, _, _, rfl, ⟨dx, S9 _ _ hF⟩, _, rfl, _, rfl, rfl, _, _, rfl, _, rfl, ?_⟩
  have ez : (lowN n d != 0) = !decide (V.int n = V.int 0) := by
    by_cases z : n = 0
    · have z2 := (lowN_zero (n := n) hd).mpr z
      rw [z2, z]
      rfl
    · have : lowN n d ≠ 0 := fun q => z ((lowN_zero hd).mp q)
      simp [z, this]
  rw [decide_eq_true ez]
  refine iteF ⟨_, rfl, q, dx, _, rfl, S9 _ _ hF, q, _, _, rfl, ⟨dx, S9 _ _ hF⟩, b1, b2, fun H10 s10 => ⟨_, rfl, ?_⟩⟩
  have S10 := S9.trans s10
  refine ⟨_, rfl, t, _, _, rfl, S10.tup hT, b1, b2, rfl, _, rfl, iteNS rfl ?_⟩
  -- 4
  refine ⟨_, rfl, q, dx, _, rfl, S10 _ _ hF, q, _, _, rfl, ⟨dx, S10 _ _ hF⟩, b1, b2, fun H11 s11 => ⟨_, rfl, _, _, _, _, _, rfl, .ty _, .base (.str _), kit_ty (r := true) (by decide +kernel), _, rfl, iteF ?_⟩⟩
  have S11 := S10.trans s11
  refine ⟨_, rfl, _, rfl, q, dx, _, rfl, S11 _ _ hF, q, _, _, rfl, ⟨dx, S11 _ _ hF⟩, b1, b2, fun H12 s12 => ⟨_, rfl, ?_⟩⟩
  have S12 := S11.trans s12
  refine ⟨q, dx, _, rfl, S12 _ _ hF, .inr (.inl ⟨_, rfl⟩), q, _, _, _, false, rfl, ⟨dx, S12 _ _ hF⟩, .inr (.inl ⟨_, rfl, rfl⟩), _, _, rfl, _, rfl, iteF ?_⟩
  -- 5
  refine ⟨_, rfl, q, dx, _, rfl, S12 _ _ hF, rfl, q, _, _, rfl, ⟨dx, S12 _ _ hF⟩, rt, _, rfl, _, rfl, iteF ?_⟩
  refine ⟨_, rfl, q, dx, _, rfl, S12 _ _ hF, rfl, q, _, _, rfl, ⟨dx, S12 _ _ hF⟩, rt, _, rfl, t, _, _, _, rfl, rfl, S12.tup hT, atI_nat (j := 0) rfl, _, rfl, t, _, _, _, rfl, rfl, S12.tup hT, atI_nat (j := 1) rfl, _, _, rfl, rfl, Bd.divX rt.2.2 (by have := rt.1; omega), rfl, _, rfl, iteNS rfl ?_⟩
  -- 6
  refine ⟨_, rfl, q, dx, _, rfl, S12 _ _ hF, rfl, q, _, _, rfl, ⟨dx, S12 _ _ hF⟩, rt, fun H13 q13 s13 f13 => ?_⟩
  have S13 := S12.trans s13
  refine ⟨_, rfl, t, _, _, _, rfl, rfl, S13.tup hT, atI_nat (j := 0) rfl, .inl ⟨_, rfl, _, rfl, t, _, _, _, rfl, rfl, S13.tup hT, atI_nat (j := 1) rfl, _, _, rfl, rfl, by have := rt.1; omega, ?_⟩⟩
  refine ⟨_, rfl, t, _, _, _, rfl, rfl, S13.tup hT, atI_nat (j := 1) rfl, q13, _, _, rfl, by have := rt.1; omega, Bd.mono rt.2.2 (by decide), f13, fun H14 s14 => ⟨_, rfl, iteF ?_⟩⟩
  have S14 := S13.trans s14
  -- 7
  refine ⟨_, rfl, a, n, d, fl, rfl, hone.same (S0.trans S14), fun H15 v s15 m15 => ⟨v, _, _, rfl, m15.num hf, fun H16 q16 s16 f16 => ⟨_, rfl, _, rfl, q16, n, d, rfl, hd, bd, f16, fun H17 s17 => ⟨_, rfl, iteF ?_⟩⟩⟩⟩
  have S17 := ((S14.trans s15).trans s16).trans s17
  -- 8
  refine ⟨_, rfl, .ref q, _, _, rfl, .inr ⟨q, rfl, dx, S17 _ _ hF⟩, fun H18 q18 s18 f18 => ⟨_, rfl, _, rfl, q18, n, d, rfl, hd, bd, f18, fun H19 s19 => ⟨_, rfl, iteT ?_⟩⟩⟩
  have S19 := (S17.trans s18).trans s19
  exact ⟨_, rfl, _, rfl, _, rfl, q, n, d, rfl, hd, bd, ⟨dx, S19 _ _ hF⟩, fun H20 s20 => hq _ ((S0.trans S19).trans s20)⟩
end
end K0
namespace K0
open PySem PySem.Spec PyProof.Rows L2 He HX KF
section
variable {P : Program} {w : World} {K : PySem.W.Frag} {mg : Str → Option Value} {base : Heap}
def NN__law_ours : List PySem.Str := ["e"]
theorem sc__law_ours : FnScope NN__law_ours ["e"] (defScope (top 54)) := ⟨rfl, rfl, rfl, by decide +kernel, rfl, by decide +kernel, by decide +kernel⟩
theorem ok__law_ours (h : HK K mg) : CalW P w K mg base 1 "_law_ours" ["e"] (sp__law_ours K) := by
  have F : FunD K "_law_ours" "_law_ours" (defArgs (top 54)) (defBody (top 54)) (defScope (top 54)) [] [] (ga K "_law_ours") (fdA K (ga K "_law_ours")) := h.says.funD 30
  have G : FnW P w K mg base (L2.CX P w) (0 + 1) (ga K "_law_ours") (fdA K (ga K "_law_ours")) ["e"] (sp__law_ours K) := okW F sc__law_ours (fun vs H Q E hs => by (repeat (obtain ⟨_, hs⟩ := hs)) <;> subst_vars <;> rfl) (fun cdv A outer s H vs Q E hw hs => ?_)
  · exact ⟨G, h.glo _, F.kp, F.bindsN (fun _ _ _ _ _ _ us hl => match us, hl with | [_], _ => rfl)⟩
  refine ⟨_, (pss_one (ps_ret (pe_and (pe_callB call_isX (by rfl) (h.free "isinstance") (by decide +kernel) (pa_cons (pv 0) (pa_cons (pe_glob (v := .ref (ga K "LatticeError")) (by rfl) (h.glo "LatticeError") rfl) pa_nil))) (pe_one (pe_callB call_isX (by rfl) (h.free "isinstance") (by decide +kernel) (pa_cons (pv 0) (pa_cons (pe_bltn (v := .ty "ValueError") (by rfl) (h.free "ValueError") (by decide +kernel) rfl) pa_nil))))))), ?_⟩
  obtain ⟨a, x, fs, rfl, ⟨hx, d, he, h0, hd⟩, hq⟩ := hs
  have e := h.ef x hx
  exact ⟨_, rfl, a, ga K x, d, fs, _, _, _, rfl, he, hd, e.erc, (fun u r => r), h.kitL x hx, _, rfl, iteT ⟨_, rfl, a, ga K x, d, fs, _, _, _, rfl, he, hd, e.erc, (fun u r => r), h.kitV x hx, hq⟩⟩
end
end K0
namespace K0
open PySem PySem.Spec PyProof.Rows L2 He HX KF
section
variable {P : Program} {w : World} {K : PySem.W.Frag} {mg : Str → Option Value} {base : Heap}
def NN__law_plus : List PySem.Str := ["one", "two", "top"]
theorem sc__law_plus : FnScope NN__law_plus ["one", "two"] (defScope (top 58)) := ⟨rfl, rfl, rfl, by decide +kernel, rfl, by decide +kernel, by decide +kernel⟩
theorem ok__law_plus (h : HK K mg) (c__law_low : Cal P w K mg base 2 "_law_low" ["num", "den"] (sp__law_low K)) : Cal P w K mg base 3 "_law_plus" ["one", "two"] (sp__law_plus K) := by
  have F : FunD K "_law_plus" "_law_plus" (defArgs (top 58)) (defBody (top 58)) (defScope (top 58)) [] [] (ga K "_law_plus") (fdA K (ga K "_law_plus")) := h.says.funD 34
  have G : FnOk P w K mg base (L2.CX P w) (2 + 1) (ga K "_law_plus") (fdA K (ga K "_law_plus")) ["one", "two"] (sp__law_plus K) := okX F sc__law_plus (fun vs H Q E hs => by (repeat (obtain ⟨_, hs⟩ := hs)) <;> subst_vars <;> rfl) (fun cdv A outer s H vs Q E hr hs => ?_)
  · exact ⟨G, h.glo _, F.kp, F.bindsN (fun _ _ _ _ _ _ us hl => match us, hl with | [_, _], _ => rfl)⟩
  refine ⟨_, (pss_cons (ps_set (i := 2) sc__law_plus.nd rfl (by first | exact Or.inl rfl | exact Or.inr rfl) (pe_op op_add (pe_op op_mulW (pe_ix ix_tup (pv 0) pe_int (fun _ _ => rfl)) (pe_ix ix_tup (pv 1) pe_int (fun _ _ => rfl))) (pe_op op_mulW (pe_ix ix_tup (pv 1) pe_int (fun _ _ => rfl)) (pe_ix ix_tup (pv 0) pe_int (fun _ _ => rfl)))))
      (pss_one (ps_ret (pe_cal c__law_low hr passL (pa_cons (pv 2) (pa_cons (pe_op op_mulW (pe_ix ix_tup (pv 0) pe_int (fun _ _ => rfl)) (pe_ix ix_tup (pv 1) pe_int (fun _ _ => rfl))) pa_nil)))))), ?_⟩
  obtain ⟨a, b, n, d, m, e, l, l', rfl, ha, hb, hd, he, bn, bd, bm, be, hq⟩ := hs
  have de : d * e ≠ 0 := Int.mul_ne_zero hd he
  have bde : Bd 1000 (d * e) := Bd.mono (Bd.mul bd be) (by decide)
  refine ⟨_, rfl, a, _, _, _, rfl, rfl, ha, atI_nat (j := 0) rfl, _, rfl, b, _, _, _, rfl, rfl, hb, atI_nat (j := 1) rfl, _, _, rfl, rfl, Bd.mulW bn be, ?_⟩
  refine ⟨_, rfl, b, _, _, _, rfl, rfl, hb, atI_nat (j := 0) rfl, _, rfl, a, _, _, _, rfl, rfl, ha, atI_nat (j := 1) rfl, _, _, rfl, rfl, Bd.mulW bm bd, _, _, rfl, rfl, ?_⟩
  refine ⟨_, rfl, _, rfl, a, _, _, _, rfl, rfl, ha, atI_nat (j := 1) rfl, _, rfl, b, _, _, _, rfl, rfl, hb, atI_nat (j := 1) rfl, _, _, rfl, rfl, Bd.mulW bd be, ?_⟩
  exact ⟨_, _, rfl, de, bde, fun q hn => hq _ q (same_upd hn) (SqT.of upd_same)⟩
end
end K0
namespace K0
open PySem PySem.Spec PyProof.Rows L2 He HX KF
section
variable {P : Program} {w : World} {K : PySem.W.Frag} {mg : Str → Option Value} {base : Heap}
def NN__law_ratio : List PySem.Str := ["pool", "text"]
theorem sc__law_ratio : FnScope NN__law_ratio ["pool"] (defScope (top 73)) := ⟨rfl, rfl, rfl, by decide +kernel, rfl, by decide +kernel, by decide +kernel⟩
theorem ok__law_ratio (h : HK K mg) (c__law_digits : Cal P w K mg base 2 "_law_digits" ["pool"] (sp__law_digits K)) (c__law_draw : Cal P w K mg base 1 "_law_draw" ["pool", "many"] (sp__law_draw K)) : Cal P w K mg base 3 "_law_ratio" ["pool"] (sp__law_ratio K) := by
  have F : FunD K "_law_ratio" "_law_ratio" (defArgs (top 73)) (defBody (top 73)) (defScope (top 73)) [] [] (ga K "_law_ratio") (fdA K (ga K "_law_ratio")) := h.says.funD 49
  have G : FnOk P w K mg base (L2.CX P w) (2 + 1) (ga K "_law_ratio") (fdA K (ga K "_law_ratio")) ["pool"] (sp__law_ratio K) := okX F sc__law_ratio (fun vs H Q E hs => by (repeat (obtain ⟨_, hs⟩ := hs)) <;> subst_vars <;> rfl) (fun cdv A outer s H vs Q E hr hs => ?_)
  · exact ⟨G, h.glo _, F.kp, F.bindsN (fun _ _ _ _ _ _ us hl => match us, hl with | [_], _ => rfl)⟩
  refine ⟨_, (pss_cons (ps_set (i := 1) sc__law_ratio.nd rfl (by first | exact Or.inl rfl | exact Or.inr rfl) (pe_cal c__law_digits hr passL (pa_cons (pv 0) pa_nil)))
      (pss_cons (ps_if (pt_cmpR op_gt (pe_cal c__law_draw hr passL (pa_cons (pv 0) (pa_cons pe_int pa_nil))) pe_int (nomark _))
        (pss_one (ps_set (i := 1) sc__law_ratio.nd rfl (by first | exact Or.inl rfl | exact Or.inr rfl) (pe_op op_add_str (pe_op op_add_str (pv 1) pe_str) (pe_cal c__law_digits hr passL (pa_cons (pv 0) pa_nil)))))
        pss_nil)
      (pss_one (ps_ret (pv 1))))), ?_⟩
  obtain ⟨p, rfl, hp, hq⟩ := hs
  refine ⟨_, rfl, p, rfl, hp, fun H1 z t1 hz => ?_⟩
  refine ⟨_, rfl, p, _, rfl, t1.2, by decide, bd64 (by decide), fun H2 i t2 i0 i4 => ⟨_, _, rfl, rfl, _, rfl, ite2 (fun c => ?_) (fun c => ?_)⟩⟩
  have T2 := t1.trans t2
  · have l1 : (Str.ofString "/").length = 1 := by decide +kernel
    refine ⟨_, rfl, _, _, rfl, rfl, small_size (by omega), _, rfl, p, rfl, t2.2, fun H3 z3 t3 hz3 => ⟨_, _, rfl, rfl, small_size (by rw [str_len_app]; omega), _, rfl, hq H3 _ ((t1.trans t2).trans t3) ?_⟩⟩
    rw [str_len_app, str_len_app]
    omega
  · exact ⟨_, rfl, hq H2 z (t1.trans t2) (by omega)⟩
end
end K0
namespace K0
open PySem PySem.Spec PyProof.Rows L2 He HX KF
theorem dv_ge : ∀ (l : List Nat) (a : Nat), a ≤ l.foldl (fun acc c => acc * 10 + (c - 48)) a
  | [], _ => Nat.le_refl _
  | c :: r, a => by
    rw [List.foldl_cons]
    refine Nat.le_trans ?_ (dv_ge r _)
    omega
theorem iv_pos {c : Nat} {r : List Nat} (h : Dg (c :: r)) (hf : isF c = true) : 1 ≤ iv (c :: r) := by
  rw [h.iv]
  have := isF_iff.mp hf
  have k := dv_ge r (0 * 10 + (c - 48))
  unfold NumText.digitsVal
  rw [List.foldl_cons]
  omega
theorem reads_suite {K : PySem.W.Frag} {mg : Str → Option Value} (h : HK K mg) {Q : VK} {D : Ends} (hD : D.rt = Q) {H' : Hp} {σ : L2.St} {p : Nat} {d : Addr} (hσ : σ.length = 7) (h1 : σ[1]? = some (some (.int (p : Nat)))) (hx0 : XdAt H' d [("at", .int (p : Nat))]) (hq : ∀ H'', Same H' H'' → Q (.bl true) H'') :
    wAsT K (.ref (ga K "BadText")) 6 (tSeq
        (tIfS
          (tOr (tNot (tB (tCall (sp__law_ours K) [] E0 (tCons (tVar 6) tNil))))
            (tB
              (tCB (rIsX K)
                (tCons (tVar 6) (tCons (tC (V.ref (ga K "DivisionByZero"))) tNil)))))
          (tRet (tC (V.bl false))) tNext)
        (tRet
          (tAndV (tOp (rI0 fun i j => V.bl (decide (j ≤ i))) (tVar 1) (tC (V.int 0)))
            (tAndV (tCall (sp__law_whole K) [] E0 (tCons (tEf K "at" (tVar 6)) tNil))
              (tOp rEq (tEf K "at" (tVar 6)) (tVar 1)))))) (fun _ _ _ _ => False) D (.ref (ga K "BadText")) (some d) σ H' := by
  subst hD
  have kk : PySem.W.kitOne K (.ref (ga K "BadText")) (.ref (ga K "DivisionByZero")) = some false := by
    rw [h.kitE _ _ (by decide +kernel) (by decide +kernel)]
    rw [decide_eq_false (by decide)]
  refine ⟨true, (h.ef "BadText").exm, fun _ a na => ?_, fun q => nomatch q⟩
  have hs : (σ.set 6 (some (.ref a)))[6]? = some (some (.ref a)) := by simp [hσ]
  have hs1 : (σ.set 6 (some (.ref a)))[1]? = some (some (.int (p : Nat))) := by
    rw [List.getElem?_set_ne (by decide)]
    exact h1
  have sA := same_upd (o := exF a (.ref (ga K "BadText")) (some d)) na
  have hx : ExAt (upd H' a (exF a (.ref (ga K "BadText")) (some d))) a (ga K "BadText") (some d) := exAt_exF upd_same
  have hd : XdAt (upd H' a (exF a (.ref (ga K "BadText")) (some d))) d [("at", .int (p : Nat))] := hx0.mono sA
  have hdd : ∀ dd, some d = some dd → XdAt (upd H' a (exF a (.ref (ga K "BadText")) (some d))) dd [("at", .int (p : Nat))] := fun dd q => by
    cases q
    exact hd
  have erc := (h.ef "BadText").erc
  have hf := h.fld "BadText" "at"
  refine ⟨_, hs, a, "BadText", _, rfl, ⟨by decide +kernel, some d, hx, (fun q => nomatch q), hdd⟩, _, rfl, iteF ⟨_, hs, a, _, _, _, _, _, _, rfl, hx, hdd, erc, (fun u r => r), kk, _, rfl, ?_⟩⟩
  refine ⟨_, hs1, _, _, rfl, rfl, _, rfl, ite2 (fun _ => ?_) (fun c => absurd (decide_eq_true (Int.natCast_nonneg p)) c)⟩
  refine ⟨_, hs, a, _, d, _, _, rfl, hx, hd, erc, hf, rfl, _, rfl, _, rfl, iteT ⟨_, hs, a, _, d, _, _, rfl, hx, hd, erc, hf, rfl, _, hs1, rfl, ?_⟩⟩
  rw [decide_eq_true rfl]
  exact hq _ sA
section
variable {P : Program} {w : World} {K : PySem.W.Frag} {mg : Str → Option Value} {base : Heap}
def NN__law_reads : List PySem.Str := ["text", "at", "num", "den", "parts", "told", "e"]
theorem sc__law_reads : FnScope NN__law_reads ["text"] (defScope (top 71)) := ⟨rfl, rfl, rfl, by decide +kernel, rfl, by decide +kernel, by decide +kernel⟩
theorem ok__law_reads (h : HK K mg) (c_Frac_read : CalS P w K mg base 6 "Frac" "read" ["text"] (sp_Frac_read K)) (c__law_common : Cal P w K mg base 1 "_law_common" ["one", "two"] (sp__law_common K)) (c__law_is : Cal P w K mg base 3 "_law_is" ["told", "num", "den"] (sp__law_is K)) (c__law_ours : CalW P w K mg base 1 "_law_ours" ["e"] (sp__law_ours K)) (c__law_scan : Cal P w K mg base 1 "_law_scan" ["text"] (sp__law_scan K)) (c__law_whole : CalW P w K mg base 1 "_law_whole" ["told"] (sp__law_whole K)) : Cal P w K mg base 8 "_law_reads" ["text"] (sp__law_reads K) := by
  have F : FunD K "_law_reads" "_law_reads" (defArgs (top 71)) (defBody (top 71)) (defScope (top 71)) [] [] (ga K "_law_reads") (fdA K (ga K "_law_reads")) := h.says.funD 47
  have G : FnOk P w K mg base (L2.CX P w) (7 + 1) (ga K "_law_reads") (fdA K (ga K "_law_reads")) ["text"] (sp__law_reads K) := okX F sc__law_reads (fun vs H Q E hs => by (repeat (obtain ⟨_, hs⟩ := hs)) <;> subst_vars <;> rfl) (fun cdv A outer s H vs Q E hr hs => ?_)
  · exact ⟨G, h.glo _, F.kp, F.bindsN (fun _ _ _ _ _ _ us hl => match us, hl with | [_], _ => rfl)⟩
  refine ⟨_, (pss_cons (ps_set (i := 1) sc__law_reads.nd rfl (by first | exact Or.inl rfl | exact Or.inr rfl) (pe_cal c__law_scan hr passL (pa_cons (pv 0) pa_nil)))
      (pss_cons (ps_set (i := 2) sc__law_reads.nd rfl (by first | exact Or.inl rfl | exact Or.inr rfl) pe_int)
      (pss_cons (ps_set (i := 3) sc__law_reads.nd rfl (by first | exact Or.inl rfl | exact Or.inr rfl) pe_int)
      (pss_cons (ps_if (pt_cmpR op_lt (pv 1) pe_int (nomark _))
        (pss_cons (ps_set (i := 4) sc__law_reads.nd rfl (by first | exact Or.inl rfl | exact Or.inr rfl) (pe_split (pv 0) pe_str))
        (pss_cons (ps_set (i := 2) sc__law_reads.nd rfl (by first | exact Or.inl rfl | exact Or.inr rfl) (pe_callTy call_int_str (by rfl) (h.free "int") (by decide +kernel) (pa_cons (pe_ix ix_list (pv 4) pe_int (fun _ _ => rfl)) pa_nil)))
        (pss_one (ps_if (pt_cmpR op_gt (pe_callB call_len_seq (by rfl) (h.free "len") (by decide +kernel) (pa_cons (pv 4) pa_nil)) pe_int (nomark _))
          (pss_cons (ps_set (i := 3) sc__law_reads.nd rfl (by first | exact Or.inl rfl | exact Or.inr rfl) (pe_callTy call_int_str (by rfl) (h.free "int") (by decide +kernel) (pa_cons (pe_ix ix_list (pv 4) pe_int (fun _ _ => rfl)) pa_nil)))
          (pss_one (ps_if (PW.pt (pw_or (pt_cmpR op_eq (pv 3) pe_int (nomark _)) (pw_or1 (pt_cmpR op_gt (pe_cal c__law_common hr passL (pa_cons (pv 2) (pa_cons (pv 3) pa_nil))) pe_int (nomark _)))))
            (pss_one (ps_set (i := 1) sc__law_reads.nd rfl (by first | exact Or.inl rfl | exact Or.inr rfl) (pe_callB call_len_str (by rfl) (h.free "len") (by decide +kernel) (pa_cons (pv 0) pa_nil))))
            pss_nil)))
          pss_nil))))
        pss_nil)
      (pss_cons (ps_tryT (i := 6) rfl rfl rfl sc__law_reads.nd rfl rfl ⟨rfl, by decide, .inl (h.glo "BadText")⟩ takes0 (by exact fun W pn xe tk _ => (pss_one (ps_set (i := 5) sc__law_reads.nd rfl (by first | exact Or.inl rfl | exact Or.inr rfl) (pe_calSS c_Frac_read hr (fun σ => passAt tk σ) (pa_cons (pv 0) pa_nil)))))
      (by exact fun a pn => (pss_cons (ps_if (PW.pt (pw_or (pt_not (pt_val (pe_calW c__law_ours (n := 7) ⟨hr.dp, hr.un⟩ passL (pa_cons (pv 6) pa_nil)))) (pw_or1 (pt_val (pe_callB (call_isXK K rfl) (by rfl) (h.free "isinstance") (by decide +kernel) (pa_cons (pv 6) (pa_cons (pe_glob (v := .ref (ga K "DivisionByZero")) (by rfl) (h.glo "DivisionByZero") rfl) pa_nil)))))))
          (pss_one (ps_ret pe_bl))
          pss_nil)
        (pss_one (ps_ret (pe_and (pe_cmpR op_ge (pv 1) pe_int (nomark _)) (pe_and (pe_calW c__law_whole (n := 7) ⟨hr.dp, hr.un⟩ passL (pa_cons (pe_efK K rfl (pv 6)) pa_nil)) (pe_one (pe_cmpR op_eq (pe_efK K rfl (pv 6)) (pv 1) (nomark _))))))))))
      (pss_one (ps_ret (pe_and (pe_cmpR op_lt (pv 1) pe_int (nomark _)) (pe_one (pe_cal c__law_is hr passL (pa_cons (pv 5) (pa_cons (pv 2) (pa_cons (pv 3) pa_nil))))))))))))), ?_⟩
  obtain ⟨z, rfl, hz, hq⟩ := hs
  have hl := chs_len z
  have ez : SX.S (chs z) = z := SX.S_tl z
  have sl : Str.ofString "/" = SX.S [47] := by decide +kernel
  have spl : ∀ ws : List (List Nat), ws ≠ [] → (∀ p ∈ ws, 47 ∉ p) → chs z = TL.joinL [47] ws → Txt.split z (Str.ofString "/") = ws.map SX.S := fun ws h1 h2 h3 => by
    rw [sl, ← ez, SX.split_S (by simp) (by decide), h3, SX.spl_join h1 h2]
  refine ⟨_, rfl, z, rfl, by omega, ?_⟩
  rcases scan_read (chs z) with ⟨p, ep, er⟩ | ⟨em, w', wok, hw⟩
  · rw [ep]
    refine ⟨_, rfl, _, _, rfl, rfl, _, rfl, ite2 (fun c => ?_) (fun _ => ?_)⟩
    · have : (p : Int) < 0 := by simpa using c
      omega
    refine ⟨_, rfl, z, rfl, by omega, (fun n d e => by rw [er] at e; cases e), fun s es H' d S x => ?_⟩
    have sp : s = p := by
      rw [er] at es
      cases es
      rfl
    subst sp
    exact reads_suite h rfl rfl rfl x fun H'' s'' => hq _ (S.trans s'')
  rw [em]
  refine ⟨_, rfl, _, _, rfl, rfl, _, rfl, iteT ?_⟩
  rcases hw with ⟨e1, r0⟩ | ⟨v, dg, ⟨c0, r0', ev, hf0⟩, e1, r0⟩
  · have es := spl [w'] (by simp) (fun p hp => by rw [List.mem_singleton.mp hp]; exact wok.free) e1
    have rd : rdF (chs z) = .ok (iv w', 0) := by
      unfold rdF
      rw [r0]
      show (if (chs z).length < (chs z).length then _ else if (0 : Int) = 1 ∨ (1 < (0 : Int) ∧ 1 < gi (iv w') 0) then _ else _) = _
      rw [if_neg (Nat.lt_irrefl _), if_neg (by omega)]
    refine ⟨_, rfl, ⟨_, rfl⟩, z, _, rfl, rfl, by decide +kernel, small_size (by omega), fun p np => ?_⟩
    rw [es]
    have s1 := same_upd (o := .lst (([w'].map SX.S).map V.str)) np
    refine ⟨_, rfl, p, _, _, _, rfl, rfl, SqL.of upd_same, atI_nat (j := 0) rfl, SX.S w', iv w', rfl, wok.int, (by rw [SX.S_len]; have := wok.len; omega), ?_⟩
    refine ⟨_, rfl, p, _, rfl, .inl (SqL.of upd_same), _, _, rfl, rfl, _, rfl, iteF ?_⟩
    refine ⟨_, rfl, z, rfl, by omega, fun n d e H' q S f => ?_, (fun s es => by rw [rd] at es; cases es)⟩
    rw [rd] at e
    cases e
    rw [if_pos rfl] at f
    exact ⟨_, rfl, _, _, rfl, rfl, _, rfl, iteT ⟨_, rfl, _, rfl, _, rfl, q, iv w', 1, rfl, by decide, bd1, f, fun H2 s2 => hq _ ((s1.trans S).trans s2)⟩⟩
  · have es := spl [w', v] (by simp) (fun p hp => by
      rcases List.mem_cons.mp hp with e | e
      · rw [e]
        exact wok.free
      · rw [List.mem_singleton.mp e]
        exact WOk.free (.inl dg)) e1
    have pv' : 1 ≤ iv v := by
      rw [ev] at dg ⊢
      exact iv_pos dg hf0
    have ltv : iv v < 1000000000000 := by
      rw [dg.iv]
      have := dg.lt
      have e12 : (10 : Nat) ^ 12 = 1000000000000 := by decide
      omega
    have rd : rdF (chs z) = if iv v = 1 ∨ (1 < iv v ∧ 1 < gi (iv w') (iv v)) then .error (chs z).length else .ok (iv w', iv v) := by
      unfold rdF
      rw [r0]
      show (if (chs z).length < (chs z).length then _ else _) = _
      rw [if_neg (Nat.lt_irrefl _)]
    refine ⟨_, rfl, ⟨_, rfl⟩, z, _, rfl, rfl, by decide +kernel, small_size (by omega), fun p np => ?_⟩
    rw [es]
    have s1 := same_upd (o := .lst (([w', v].map SX.S).map V.str)) np
    refine ⟨_, rfl, p, _, _, _, rfl, rfl, SqL.of upd_same, atI_nat (j := 0) rfl, SX.S w', iv w', rfl, wok.int, (by rw [SX.S_len]; have := wok.len; omega), ?_⟩
    refine ⟨_, rfl, p, _, rfl, .inl (SqL.of upd_same), _, _, rfl, rfl, _, rfl, iteT ?_⟩
    refine ⟨_, rfl, p, _, _, _, rfl, rfl, SqL.of upd_same, atI_nat (j := 1) rfl, SX.S v, iv v, rfl, WOk.int (.inl dg), (by rw [SX.S_len]; have := dg.le; omega), ?_⟩
    dsimp only [gName]
    refine or_rd (a := decide (iv v = 1)) (b := decide (1 < gi (iv w') (iv v))) (fun Q' q => ⟨_, rfl, rfl, _, rfl, by rw [show decide (V.int (iv v) = V.int 1) = decide (iv v = 1) by simp]; exact q⟩) (fun Q' q => ⟨_, rfl, _, rfl, _, _, rfl, _, _, rfl, rfl, _, rfl, q⟩) (ite2 (fun c => ?_) (fun c => ?_))
    · have c1 : iv v = 1 ∨ 1 < gi (iv w') (iv v) := by simpa using c
      have rd2 : rdF (chs z) = .error (chs z).length := by
        rw [rd, if_pos]
        rcases c1 with q | q
        · exact .inl q
        · by_cases q1 : iv v = 1
          · exact .inl q1
          · exact .inr ⟨by omega, q⟩
      refine ⟨_, rfl, _, rfl, small_size (by omega), ?_⟩
      refine ⟨_, rfl, z, rfl, by omega, (fun n d e => by rw [rd2] at e; cases e), fun s es H' d S x => ?_⟩
      have sp : s = z.length := by
        rw [rd2] at es
        cases es
        exact hl
      subst sp
      exact reads_suite h rfl rfl rfl x fun H'' s'' => hq _ ((s1.trans S).trans s'')
    · have c1 : ¬ (iv v = 1 ∨ 1 < gi (iv w') (iv v)) := fun q => c (by simpa using q)
      have rd2 : rdF (chs z) = .ok (iv w', iv v) := by
        rw [rd, if_neg]
        exact fun q => c1 (q.elim .inl fun q => .inr q.2)
      refine ⟨_, rfl, z, rfl, by omega, fun n d e H' q S f => ?_, (fun s es => by rw [rd2] at es; cases es)⟩
      rw [rd2] at e
      cases e
      rw [if_neg (by omega)] at f
      exact ⟨_, rfl, _, _, rfl, rfl, _, rfl, iteT ⟨_, rfl, _, rfl, _, rfl, q, iv w', iv v, rfl, by omega, (bd_of (k := 60) (by omega) ltv (by decide)).mono (by decide), f, fun H2 s2 => hq _ ((s1.trans S).trans s2)⟩⟩
end
end K0
namespace K0
open PySem PySem.Spec PyProof.Rows L2 He HX KF
theorem refused_suite {K : PySem.W.Frag} {mg : Str → Option Value} (h : HK K mg) {Q : VK} {D : Ends} (hD : D.rt = Q) {H' : Hp} {σ : L2.St} (hσ : σ.length = 5) (hq : ∀ H'', Same H' H'' → Q (.bl true) H'') :
    wAsT K (.ref (ga K "DivisionByZero")) 4 (tRet (tAndV (tCall (sp__law_ours K) [] E0 (tCons (tVar 4) tNil)) (tNotV (tCB (rIsX K) (tCons (tVar 4) (tCons (tC (V.ref (ga K "BadText"))) tNil)))))) (fun _ _ _ _ => False) D (.ref (ga K "DivisionByZero")) none σ H' := by
  subst hD
  have kk : PySem.W.kitOne K (.ref (ga K "DivisionByZero")) (.ref (ga K "BadText")) = some false := by
    rw [h.kitE _ _ (by decide +kernel) (by decide +kernel)]
    rw [decide_eq_false (by decide)]
  refine ⟨true, (h.ef "DivisionByZero").exm, fun _ a na => ?_, fun q => nomatch q⟩
  have hs : (σ.set 4 (some (.ref a)))[4]? = some (some (.ref a)) := by simp [hσ]
  have hx : ExAt (upd H' a (exF a (.ref (ga K "DivisionByZero")) none)) a (ga K "DivisionByZero") none := exAt_exF upd_same
  exact ⟨_, hs, a, "DivisionByZero", [], rfl, ⟨by decide +kernel, none, hx, fun _ => rfl, fun dd z => nomatch z⟩, _, rfl, iteT ⟨_, hs, a, _, none, [], _, _, _, rfl, hx, (fun dd z => nomatch z), (h.ef "DivisionByZero").erc, (fun u r => r), kk, _, rfl, hq _ (same_upd na)⟩⟩
section
variable {P : Program} {w : World} {K : PySem.W.Frag} {mg : Str → Option Value} {base : Heap}
def NN__law_refused : List PySem.Str := ["frac", "zero", "way", "told", "e"]
theorem sc__law_refused : FnScope NN__law_refused ["frac", "zero", "way"] (defScope (top 66)) := ⟨rfl, rfl, rfl, by decide +kernel, rfl, by decide +kernel, by decide +kernel⟩
theorem ok__law_refused (h : HK K mg) (ff : FF K) (c_FR : CalF P w K mg base) (c_Fracd_floordivd : CalM P w K mg base 3 (fC K) "__floordiv__" ["self", "other"] (sp_Fracd_floordivd K)) (c_Fracd_modd : CalM P w K mg base 5 (fC K) "__mod__" ["self", "other"] (sp_Fracd_modd K)) (c_Frac_over : CalM P w K mg base 5 (fC K) "over" ["self", "other"] (sp_Frac_over K)) (c__law_ours : CalW P w K mg base 1 "_law_ours" ["e"] (sp__law_ours K)) : Cal P w K mg base 7 "_law_refused" ["frac", "zero", "way"] (sp__law_refused K) := by
  have F : FunD K "_law_refused" "_law_refused" (defArgs (top 66)) (defBody (top 66)) (defScope (top 66)) [] [] (ga K "_law_refused") (fdA K (ga K "_law_refused")) := h.says.funD 42
  have G : FnOk P w K mg base (L2.CX P w) (6 + 1) (ga K "_law_refused") (fdA K (ga K "_law_refused")) ["frac", "zero", "way"] (sp__law_refused K) := okX F sc__law_refused (fun vs H Q E hs => by (repeat (obtain ⟨_, hs⟩ := hs)) <;> subst_vars <;> rfl) (fun cdv A outer s H vs Q E hr hs => ?_)
  · exact ⟨G, h.glo _, F.kp, F.bindsN (fun _ _ _ _ _ _ us hl => match us, hl with | [_, _, _], _ => rfl)⟩
  refine ⟨_, (pss_cons (ps_tryT (i := 4) rfl rfl rfl sc__law_refused.nd rfl rfl ⟨rfl, by decide, .inl (h.glo "DivisionByZero")⟩ takes0 (by exact fun W pn xe tk _ => (pss_one (ps_if (pt_cmpR op_eq (pv 2) pe_int (nomark _))
          (pss_one (ps_set (i := 3) sc__law_refused.nd rfl (by first | exact Or.inl rfl | exact Or.inr rfl) (pe_calMK K rfl c_Frac_over hr (show Passes (L2.CX P w) _ (EL W 5) from passLen tk) (pv 0) (pa_cons (pv 1) pa_nil))))
          (pss_one (ps_if (pt_cmpR op_eq (pv 2) pe_int (nomark _))
            (pss_one (ps_set (i := 3) sc__law_refused.nd rfl (by first | exact Or.inl rfl | exact Or.inr rfl) (pe_op (op_ownB ff.own c_Fracd_floordivd.mt.at_ c_Fracd_floordivd.mt.fn (ff.no _ (by decide +kernel)) (by rfl) (by rfl) c_Fracd_floordivd.ok (hr.mono (by decide)) c_Fracd_floordivd.b (show Passes (L2.CX P w) _ (EL W 5) from passLen tk)) (pv 0) (pv 1))))
            (pss_one (ps_if (pt_cmpR op_eq (pv 2) pe_int (nomark _))
              (pss_one (ps_set (i := 3) sc__law_refused.nd rfl (by first | exact Or.inl rfl | exact Or.inr rfl) (pe_op (op_ownB ff.own c_Fracd_modd.mt.at_ c_Fracd_modd.mt.fn (ff.no _ (by decide +kernel)) (by rfl) (by rfl) c_Fracd_modd.ok (hr.mono (by decide)) c_Fracd_modd.b (show Passes (L2.CX P w) _ (EL W 5) from passLen tk)) (pv 0) (pv 1))))
              (pss_one (ps_set (i := 3) sc__law_refused.nd rfl (by first | exact Or.inl rfl | exact Or.inr rfl) (pe_frac2K K rfl c_FR hr (show Passes (L2.CX P w) _ (EL W 5) from passLen tk) (pa_cons (pe_fldK K rfl (pv 0)) (pa_cons pe_int pa_nil))))))))))))
      (by exact fun a pn => (pss_one (ps_ret (pe_and (pe_calW c__law_ours (n := 6) ⟨hr.dp, hr.un⟩ passL (pa_cons (pv 4) pa_nil)) (pe_one (pe_not (pe_callB (call_isXK K rfl) (by rfl) (h.free "isinstance") (by decide +kernel) (pa_cons (pv 4) (pa_cons (pe_glob (v := .ref (ga K "BadText")) (by rfl) (h.glo "BadText") rfl) pa_nil))))))))))
      (pss_one (ps_ret pe_bl))), ?_⟩
  obtain ⟨a, n, d, y, e, w', rfl, ⟨dx, ha⟩, rt, hy, rt0, hq⟩ := hs
  have ff := h.ff
  have opnd : Opnd (fC K) y H := by
    rcases hy with ⟨e1, _⟩ | ⟨q, e1, dy, hy⟩
    · exact .inl ⟨_, e1⟩
    · exact .inr ⟨q, dy, _, e1, hy⟩
  refine ⟨_, rfl, rfl, _, rfl, ite2 (fun c => ?_) (fun c => ?_)⟩
  · exact ⟨_, rfl, a, dx, _, rfl, ha, rfl, _, rfl, a, y, n, d, 0, e, rfl, ⟨dx, ha⟩, hy, rt, rt0, (fun z => absurd rfl z), fun _ H' s' σ hσ => refused_suite h rfl hσ fun H'' s'' => hq _ (s'.trans s'')⟩
  refine ⟨_, rfl, rfl, _, rfl, ite2 (fun c => ?_) (fun c => ?_)⟩
  · exact ⟨_, rfl, _, rfl, a, dx, _, rfl, ha, opnd, a, y, n, d, 0, e, rfl, ⟨dx, ha⟩, hy, rt, rt0, (fun z => absurd rfl z), fun _ H' s' σ hσ => refused_suite h rfl hσ fun H'' s'' => hq _ (s'.trans s'')⟩
  refine ⟨_, rfl, rfl, _, rfl, ite2 (fun c => ?_) (fun c => ?_)⟩
  · exact ⟨_, rfl, _, rfl, a, dx, _, rfl, ha, opnd, a, y, n, d, 0, e, rfl, ⟨dx, ha⟩, hy, rt, rt0, (fun z => absurd rfl z), fun _ H' s' σ hσ => refused_suite h rfl hσ fun H'' s'' => hq _ (s'.trans s'')⟩
  · refine ⟨_, rfl, _, _, _, _, _, rfl, ha, ff.cls, ff.no _ (by decide +kernel), rfl, fun x dx' nx nd ne => ⟨x, dx', n, 0, rfl, upd_same, Nat.two_pow_pos _, (fun z => absurd rfl z), fun _ σ hσ => refused_suite h rfl hσ fun H'' s'' => hq _ (Same.trans (fun b o q => ?_) s'')⟩⟩
    rw [upd_ne (ne_of_none q nx), upd_ne (ne_of_none q nd)]
    exact q
end
end K0
namespace K0
open PySem PySem.Spec PyProof.Rows L2 He HX KF
section
variable {P : Program} {w : World} {K : PySem.W.Frag} {mg : Str → Option Value} {base : Heap}
def NN__law_scan : List PySem.Str := ["text", "state", "many", "at", "sign", "digit"]
theorem sc__law_scan : FnScope NN__law_scan ["text"] (defScope (top 70)) := ⟨rfl, rfl, rfl, by decide +kernel, rfl, by decide +kernel, by decide +kernel⟩
theorem ok__law_scan (h : HK K mg) : Cal P w K mg base 1 "_law_scan" ["text"] (sp__law_scan K) := by
  have F : FunD K "_law_scan" "_law_scan" (defArgs (top 70)) (defBody (top 70)) (defScope (top 70)) [] [] (ga K "_law_scan") (fdA K (ga K "_law_scan")) := h.says.funD 46
  have G : FnOk P w K mg base (L2.CX P w) (0 + 1) (ga K "_law_scan") (fdA K (ga K "_law_scan")) ["text"] (sp__law_scan K) := okX F sc__law_scan (fun vs H Q E hs => by (repeat (obtain ⟨_, hs⟩ := hs)) <;> subst_vars <;> rfl) (fun cdv A outer s H vs Q E hr hs => ?_)
  · exact ⟨G, h.glo _, F.kp, F.bindsN (fun _ _ _ _ _ _ us hl => match us, hl with | [_], _ => rfl)⟩
  refine ⟨_, (pss_cons (ps_set (i := 1) sc__law_scan.nd rfl (by first | exact Or.inl rfl | exact Or.inr rfl) pe_int)
      (pss_cons (ps_set (i := 2) sc__law_scan.nd rfl (by first | exact Or.inl rfl | exact Or.inr rfl) pe_int)
      (pss_cons (ps_for (passes_of rfl) (by rfl) (pi_range1 (by rfl) (h.free "range") (pa_cons (pe_callB call_len_str (by rfl) (h.free "len") (by decide +kernel) (pa_cons (pv 0) pa_nil)) pa_nil)) (pg_name (i := 3) sc__law_scan.nd rfl (by first | exact Or.inl rfl | exact Or.inr rfl))
        (pss_cons (ps_set (i := 4) sc__law_scan.nd rfl (by first | exact Or.inl rfl | exact Or.inr rfl) (pe_ix ix_str (pv 0) (pv 3) (fun _ _ => rfl)))
        (pss_cons (ps_set (i := 5) sc__law_scan.nd rfl (by first | exact Or.inl rfl | exact Or.inr rfl) (pe_cmpR op_in_sign (pv 4) pe_str (by rfl)))
        (pss_one (ps_if (PW.pt (pw_and (pt_cmpR op_eq (pv 1) pe_int (nomark _)) (pw_and1 (pt_cmpR op_eq (pv 4) pe_str (nomark _)))))
          (pss_one (ps_set (i := 1) sc__law_scan.nd rfl (by first | exact Or.inl rfl | exact Or.inr rfl) pe_int))
          (pss_one (ps_if (PW.pt (pw_and (pt_cmpR op_eq (pv 1) pe_int (nomark _)) (pw_and1 (pt_cmpR op_eq (pv 4) pe_str (nomark _)))))
            (pss_one (ps_set (i := 1) sc__law_scan.nd rfl (by first | exact Or.inl rfl | exact Or.inr rfl) pe_int))
            (pss_one (ps_if (PW.pt (pw_and (pt_cmpR op_lt (pv 1) pe_int (nomark _)) (pw_and (pt_val (pv 5)) (pw_and1 (pt_cmpR op_ne (pv 4) pe_str (nomark _))))))
              (pss_cons (ps_set (i := 1) sc__law_scan.nd rfl (by first | exact Or.inl rfl | exact Or.inr rfl) pe_int)
              (pss_one (ps_set (i := 2) sc__law_scan.nd rfl (by first | exact Or.inl rfl | exact Or.inr rfl) pe_int)))
              (pss_one (ps_if (PW.pt (pw_and (pt_cmpR op_eq (pv 1) pe_int (nomark _)) (pw_and (pt_val (pv 5)) (pw_and1 (pt_cmpR op_ne (pv 4) pe_str (nomark _))))))
                (pss_cons (ps_set (i := 1) sc__law_scan.nd rfl (by first | exact Or.inl rfl | exact Or.inr rfl) pe_int)
                (pss_one (ps_set (i := 2) sc__law_scan.nd rfl (by first | exact Or.inl rfl | exact Or.inr rfl) pe_int)))
                (pss_one (ps_if (PW.pt (pw_and (PW.pt (pw_or (pt_cmpR op_eq (pv 1) pe_int (nomark _)) (pw_or1 (pt_cmpR op_eq (pv 1) pe_int (nomark _))))) (pw_and (pt_val (pv 5)) (pw_and1 (pt_cmpR op_lt (pv 2) pe_int (nomark _))))))
                  (pss_one (ps_set (i := 2) sc__law_scan.nd rfl (by first | exact Or.inl rfl | exact Or.inr rfl) (pe_op op_add (pv 2) pe_int)))
                  (pss_one (ps_if (PW.pt (pw_and (PW.pt (pw_or (pt_cmpR op_eq (pv 1) pe_int (nomark _)) (pw_or1 (pt_cmpR op_eq (pv 1) pe_int (nomark _))))) (pw_and1 (pt_cmpR op_eq (pv 4) pe_str (nomark _)))))
                    (pss_one (ps_set (i := 1) sc__law_scan.nd rfl (by first | exact Or.inl rfl | exact Or.inr rfl) pe_int))
                    (pss_one (ps_ret (pv 3))))))))))))))))))
      (pss_cons (ps_if (PW.pt (pw_or (pt_cmpR op_eq (pv 1) pe_int (nomark _)) (pw_or (pt_cmpR op_eq (pv 1) pe_int (nomark _)) (pw_or1 (pt_cmpR op_eq (pv 1) pe_int (nomark _))))))
        (pss_one (ps_ret (pe_un un_neg pe_int)))
        pss_nil)
      (pss_one (ps_ret (pe_callB call_len_str (by rfl) (h.free "len") (by decide +kernel) (pa_cons (pv 0) pa_nil)))))))), ?_⟩
  obtain ⟨z, rfl, hz, hq⟩ := hs
  have hl := chs_len z
  refine ⟨_, rfl, _, rfl, small_size hz, z.length, rfl, by omega, by omega, for_range (n := z.length) (fun i σ H' => H' = H ∧ ∃ (st m : Int) (r2 r3 r4 : Option V), σ = [some (.str z), some (.int st), some (.int m), r2, r3, r4] ∧ sc 0 0 (chs z) 0 = sc st m ((chs z).drop i) i) ?_ ?_ ?_⟩
  · exact ⟨rfl, 0, 0, none, none, none, rfl, rfl⟩
  · rintro i σ H' hi ⟨rfl, st, m, r2, r3, r4, rfl, he⟩
    obtain ⟨x, r, hx⟩ : ∃ c r, (chs z).drop i = c :: r := by
      cases q : (chs z).drop i with
      | nil =>
        have := List.drop_eq_nil_iff.mp q
        omega
      | cons c r => exact ⟨c, r, rfl⟩
    have hr : (chs z).drop (i + 1) = r := by
      rw [← List.drop_drop, hx]
      rfl
    rw [hx, sc_cons] at he
    have nx : ∀ (st' m' : Int) (r2 r3 r4 : Option V), sc 0 0 (chs z) 0 = sc st' m' r (i + 1) → (H' = H' ∧ ∃ (st m : Int) (r2' r3' r4' : Option V), ([some (.str z), some (.int st'), some (.int m'), r2, r3, r4] : L2.St) = [some (.str z), some (.int st), some (.int m), r2', r3', r4'] ∧ sc 0 0 (chs z) 0 = sc st m ((chs z).drop (i + 1)) (i + 1)) := fun st' m' r2 r3 r4 e => ⟨rfl, st', m', r2, r3, r4, rfl, by rw [hr]; exact e⟩
    have sg : ∀ k : Nat, decide (V.str ⟨#[x]⟩ = V.str ⟨#[k]⟩) = decide (x = k) := fun k => by
      by_cases e : x = k
      · rw [e]
        simp
      · rw [decide_eq_false e]
        simp [e]
    have di : ∀ a b : Int, decide (V.int a = V.int b) = decide (a = b) := fun a b => by simp
    have e45 : Str.ofString "-" = ⟨#[45]⟩ := by decide +kernel
    have e48 : Str.ofString "0" = ⟨#[48]⟩ := by decide +kernel
    have e47 : Str.ofString "/" = ⟨#[47]⟩ := by decide +kernel
    refine ⟨_, rfl, _, rfl, _, _, x, rfl, rfl, small_size hz, by rw [Int.zero_add]; exact atI_nat (get_drop hx), _, rfl, x, _, rfl, rfl, ?_⟩
    rw [in_digits]
    dsimp only [gName, tSeq]
    have lit : ∀ {Q' : Bool → Hp → Prop} {k : Nat} {c : Str}, c = ⟨#[k]⟩ → decide (V.str ⟨#[x]⟩ = V.str c) = decide (x = k) := fun {Q' k c} e => by
      rw [e]
      exact sg k
    refine and_rd (a := decide (st = 0)) (b := decide (x = 45)) (fun Q' q => ⟨_, rfl, rfl, _, rfl, by rw [di]; exact q⟩) (fun Q' q => ⟨_, rfl, rfl, _, rfl, by rw [e45, sg]; exact q⟩) (ite2 (fun c => ?_) (fun c => ?_))
    · have c' : st = 0 ∧ x = 45 := by simpa using c
      rw [if_pos c'] at he
      exact nx 1 m _ _ _ he
    have c' : ¬ (st = 0 ∧ x = 45) := by simpa using c
    rw [if_neg c'] at he
    refine and_rd (a := decide (st = 0)) (b := decide (x = 48)) (fun Q' q => ⟨_, rfl, rfl, _, rfl, by rw [di]; exact q⟩) (fun Q' q => ⟨_, rfl, rfl, _, rfl, by rw [e48, sg]; exact q⟩) (ite2 (fun c => ?_) (fun c => ?_))
    · have c' : st = 0 ∧ x = 48 := by simpa using c
      rw [if_pos c'] at he
      exact nx 2 m _ _ _ he
    have c' : ¬ (st = 0 ∧ x = 48) := by simpa using c
    rw [if_neg c'] at he
    refine and_rd (a := decide (st < 2)) (b := isD x && !decide (x = 48)) (fun Q' q => ⟨_, rfl, _, _, rfl, rfl, _, rfl, q⟩) (fun Q' q => and_rd (a := isD x) (b := !decide (x = 48)) (fun Q' q => ⟨_, rfl, _, rfl, q⟩) (fun Q' q => ⟨_, rfl, rfl, _, rfl, by rw [e48, sg]; exact q⟩) q) (ite2 (fun c => ?_) (fun c => ?_))
    · have c' : st < 2 ∧ isD x = true ∧ x ≠ 48 := by simpa using c
      rw [if_pos c'] at he
      exact nx 3 1 _ _ _ he
    have c' : ¬ (st < 2 ∧ isD x = true ∧ x ≠ 48) := fun q => c (by simpa using q)
    rw [if_neg c'] at he
    refine and_rd (a := decide (st = 4)) (b := isD x && !decide (x = 48)) (fun Q' q => ⟨_, rfl, rfl, _, rfl, by rw [di]; exact q⟩) (fun Q' q => and_rd (a := isD x) (b := !decide (x = 48)) (fun Q' q => ⟨_, rfl, _, rfl, q⟩) (fun Q' q => ⟨_, rfl, rfl, _, rfl, by rw [e48, sg]; exact q⟩) q) (ite2 (fun c => ?_) (fun c => ?_))
    · have c' : st = 4 ∧ isD x = true ∧ x ≠ 48 := by simpa using c
      rw [if_pos c'] at he
      exact nx 5 1 _ _ _ he
    have c' : ¬ (st = 4 ∧ isD x = true ∧ x ≠ 48) := fun q => c (by simpa using q)
    rw [if_neg c'] at he
    refine and_rd (a := decide (st = 3) || decide (st = 5)) (b := isD x && decide (m < 12)) (fun Q' q => or_rd (a := decide (st = 3)) (b := decide (st = 5)) (fun Q' q => ⟨_, rfl, rfl, _, rfl, by rw [di]; exact q⟩) (fun Q' q => ⟨_, rfl, rfl, _, rfl, by rw [di]; exact q⟩) q) (fun Q' q => and_rd (a := isD x) (b := decide (m < 12)) (fun Q' q => ⟨_, rfl, _, rfl, q⟩) (fun Q' q => ⟨_, rfl, _, _, rfl, rfl, _, rfl, q⟩) q) (ite2 (fun c => ?_) (fun c => ?_))
    · have c' : (st = 3 ∨ st = 5) ∧ isD x = true ∧ m < 12 := by simpa using c
      rw [if_pos c'] at he
      exact ⟨_, rfl, _, _, rfl, rfl, nx st (m + 1) _ _ _ he⟩
    have c' : ¬ ((st = 3 ∨ st = 5) ∧ isD x = true ∧ m < 12) := fun q => c (by simpa using q)
    rw [if_neg c'] at he
    refine and_rd (a := decide (st = 2) || decide (st = 3)) (b := decide (x = 47)) (fun Q' q => or_rd (a := decide (st = 2)) (b := decide (st = 3)) (fun Q' q => ⟨_, rfl, rfl, _, rfl, by rw [di]; exact q⟩) (fun Q' q => ⟨_, rfl, rfl, _, rfl, by rw [di]; exact q⟩) q) (fun Q' q => ⟨_, rfl, rfl, _, rfl, by rw [e47, sg]; exact q⟩) (ite2 (fun c => ?_) (fun c => ?_))
    · have c' : (st = 2 ∨ st = 3) ∧ x = 47 := by simpa using c
      rw [if_pos c'] at he
      exact nx 4 m _ _ _ he
    have c' : ¬ ((st = 2 ∨ st = 3) ∧ x = 47) := fun q => c (by simpa using q)
    rw [if_neg c'] at he
    rw [he] at hq
    refine ⟨_, rfl, ?_⟩
    rw [Int.zero_add]
    exact hq
  · rintro σ H' ⟨rfl, st, m, r2, r3, r4, rfl, he⟩
    rw [show (chs z).drop z.length = [] from List.drop_eq_nil_iff.mpr (by omega)] at he
    have di : ∀ a b : Int, decide (V.int a = V.int b) = decide (a = b) := fun a b => by simp
    have he2 : sc 0 0 (chs z) 0 = if st = 2 ∨ st = 3 ∨ st = 5 then -1 else (z.length : Int) := by
      rw [he, sc]
    dsimp only [gName, tSeq]
    refine or_rd (a := decide (st = 2)) (b := decide (st = 3) || decide (st = 5)) (fun Q' q => ⟨_, rfl, rfl, _, rfl, by rw [di]; exact q⟩) (fun Q' q => or_rd (a := decide (st = 3)) (b := decide (st = 5)) (fun Q' q => ⟨_, rfl, rfl, _, rfl, by rw [di]; exact q⟩) (fun Q' q => ⟨_, rfl, rfl, _, rfl, by rw [di]; exact q⟩) q) (ite2 (fun c => ?_) (fun c => ?_))
    · have c' : st = 2 ∨ st = 3 ∨ st = 5 := by simpa using c
      rw [he2, if_pos c'] at hq
      exact ⟨_, rfl, hq⟩
    · have c' : ¬ (st = 2 ∨ st = 3 ∨ st = 5) := fun q => c (by simpa using q)
      rw [he2, if_neg c'] at hq
      exact ⟨_, rfl, _, rfl, small_size hz, hq⟩
end
end K0
namespace K0
open PySem PySem.Spec PyProof.Rows L2 He HX KF
section
variable {P : Program} {w : World} {K : PySem.W.Frag} {mg : Str → Option Value} {base : Heap}
def NN__law_spoilt : List PySem.Str := ["pool", "text", "signs", "at", "way", "sign"]
theorem sc__law_spoilt : FnScope NN__law_spoilt ["pool", "text"] (defScope (top 74)) := ⟨rfl, rfl, rfl, by decide +kernel, rfl, by decide +kernel, by decide +kernel⟩
theorem ok__law_spoilt (h : HK K mg) (c__law_draw : Cal P w K mg base 1 "_law_draw" ["pool", "many"] (sp__law_draw K)) : Cal P w K mg base 2 "_law_spoilt" ["pool", "text"] (sp__law_spoilt K) := by
  have F : FunD K "_law_spoilt" "_law_spoilt" (defArgs (top 74)) (defBody (top 74)) (defScope (top 74)) [] [] (ga K "_law_spoilt") (fdA K (ga K "_law_spoilt")) := h.says.funD 50
  have G : FnOk P w K mg base (L2.CX P w) (1 + 1) (ga K "_law_spoilt") (fdA K (ga K "_law_spoilt")) ["pool", "text"] (sp__law_spoilt K) := okX F sc__law_spoilt (fun vs H Q E hs => by (repeat (obtain ⟨_, hs⟩ := hs)) <;> subst_vars <;> rfl) (fun cdv A outer s H vs Q E hr hs => ?_)
  · exact ⟨G, h.glo _, F.kp, F.bindsN (fun _ _ _ _ _ _ us hl => match us, hl with | [_, _], _ => rfl)⟩
  refine ⟨_, (pss_cons (ps_set (i := 2) sc__law_spoilt.nd rfl (by first | exact Or.inl rfl | exact Or.inr rfl) pe_str)
      (pss_cons (ps_set (i := 3) sc__law_spoilt.nd rfl (by first | exact Or.inl rfl | exact Or.inr rfl) (pe_cal c__law_draw hr passL (pa_cons (pv 0) (pa_cons (pe_op op_add (pe_callB call_len_str (by rfl) (h.free "len") (by decide +kernel) (pa_cons (pv 1) pa_nil)) pe_int) pa_nil))))
      (pss_cons (ps_set (i := 4) sc__law_spoilt.nd rfl (by first | exact Or.inl rfl | exact Or.inr rfl) (pe_cal c__law_draw hr passL (pa_cons (pv 0) (pa_cons pe_int pa_nil))))
      (pss_cons (ps_if (pt_cmpR op_eq (pv 4) pe_int (nomark _))
        (pss_one (ps_ret (pe_op op_add_str (pe_slice sl_str (pv 1) po_none (po_some (pv 3))) (pe_slice sl_str (pv 1) (po_some (pe_op op_add (pv 3) pe_int)) po_none))))
        pss_nil)
      (pss_cons (ps_if (pt_cmpR op_eq (pv 4) pe_int (nomark _))
        (pss_one (ps_ret (pe_slice sl_str (pv 1) po_none (po_some (pv 3)))))
        pss_nil)
      (pss_cons (ps_set (i := 5) sc__law_spoilt.nd rfl (by first | exact Or.inl rfl | exact Or.inr rfl) (pe_ix ix_str pe_str (pe_cal c__law_draw hr passL (pa_cons (pv 0) (pa_cons pe_int pa_nil))) (fun _ _ => rfl)))
      (pss_cons (ps_if (pt_cmpR op_lt (pv 4) pe_int (nomark _))
        (pss_one (ps_set (i := 5) sc__law_spoilt.nd rfl (by first | exact Or.inl rfl | exact Or.inr rfl) (pe_ix ix_str (pv 2) (pe_cal c__law_draw hr passL (pa_cons (pv 0) (pa_cons (pe_callB call_len_str (by rfl) (h.free "len") (by decide +kernel) (pa_cons (pv 2) pa_nil)) pa_nil))) (fun _ _ => rfl))))
        pss_nil)
      (pss_one (ps_ret (pe_op op_add_str (pe_op op_add_str (pe_slice sl_str (pv 1) po_none (po_some (pv 3))) (pv 5)) (pe_slice sl_str (pv 1) (po_some (pe_op op_add (pv 3) (pe_op op_modN (pe_callTy call_int1 (by rfl) (h.free "int") (by decide +kernel) (pa_cons (pv 4) pa_nil)) pe_int))) po_none))))))))))), ?_⟩
  obtain ⟨p, x, rfl, hp, hx, hq⟩ := hs
  have cl := fun lo hi => cutS_length x lo hi
  refine ⟨_, rfl, _, rfl, _, rfl, small_size (by omega), _, _, rfl, rfl, p, _, rfl, hp, by omega, bd64 (by omega), fun H1 at' t1 a0 a1 => ?_⟩
  refine ⟨_, rfl, p, _, rfl, t1.2, by decide, bd64 (by decide), fun H2 w' t2 w0 w6 => ?_⟩
  have T2 := t1.trans t2
  refine ⟨_, rfl, rfl, _, rfl, ite2 (fun c => ?_) (fun c => ?_)⟩
  · have c1 := cl none (some at')
    have c2 := cl (some (at' + 1)) none
    refine ⟨_, rfl, _, rfl, _, rfl, _, rfl, small_size (by omega), _, rfl, _, rfl, _, _, rfl, rfl, _, rfl, _, rfl, small_size (by omega), _, _, rfl, rfl, small_size (by omega), hq H2 _ T2 ?_⟩
    rw [str_len_app]
    omega
  refine ⟨_, rfl, rfl, _, rfl, ite2 (fun c => ?_) (fun c => ?_)⟩
  · have c1 := cl none (some at')
    exact ⟨_, rfl, _, rfl, _, rfl, _, rfl, small_size (by omega), hq H2 _ T2 (by omega)⟩
  obtain ⟨c3, hc3, _⟩ := atI_some (xs := (Str.ofString "-/0 1.;9").cps.toList) (i := 0) (by decide) (by decide +kernel)
  refine ⟨_, rfl, p, _, rfl, t2.2, by decide, bd64 (by decide), fun H3 i3 t3 j0 j8 => ?_⟩
  obtain ⟨c4, hc4, _⟩ := atI_some (xs := (Str.ofString "-/0 1.;9").cps.toList) j0 (by
    have : (Str.ofString "-/0 1.;9").cps.toList.length = 8 := by decide +kernel
    omega)
  refine ⟨_, _, c4, rfl, rfl, small_size (by decide +kernel), hc4, ?_⟩
  have T3 := T2.trans t3
  have one : ∀ c : Nat, (⟨#[c]⟩ : Str).length = 1 := fun _ => rfl
  have fin : ∀ (H' : Hp) (c : Nat), PoolTo p H H' → Q (.str (cutS x none (some at') ++ ⟨#[c]⟩ ++ cutS x (some (at' + w'.fmod 2)) none)) H' := fun H' c T => hq H' _ T (by
    have c1 := cl none (some at')
    have c2 := cl (some (at' + w'.fmod 2)) none
    rw [str_len_app, str_len_app, one]
    omega)
  have s1 : ∀ c : Nat, (cutS x none (some at')).length + (⟨#[c]⟩ : Str).length ≤ sizeLine := fun c => small_size (by
    have c1 := cl none (some at')
    rw [one]
    omega)
  have s2 : ∀ c : Nat, (cutS x none (some at') ++ ⟨#[c]⟩).length + (cutS x (some (at' + w'.fmod 2)) none).length ≤ sizeLine := fun c => small_size (by
    have c1 := cl none (some at')
    have c2 := cl (some (at' + w'.fmod 2)) none
    rw [str_len_app, one]
    omega)
  refine ⟨_, rfl, _, _, rfl, rfl, _, rfl, ite2 (fun c => ?_) (fun c => ?_)⟩
  · have ls : (Str.ofString " !\"#$&'()*+,-./0123456789:;<=>?@ABCDEFGHIJKLMNOPQRSTUVWXYZ[\\]^_`abcdefghijklmnopqrstuvwxyz{|}~").length ≤ 1000 := by decide +kernel
    have ls0 : 0 < (Str.ofString " !\"#$&'()*+,-./0123456789:;<=>?@ABCDEFGHIJKLMNOPQRSTUVWXYZ[\\]^_`abcdefghijklmnopqrstuvwxyz{|}~").length := by decide +kernel
    generalize (Str.ofString " !\"#$&'()*+,-./0123456789:;<=>?@ABCDEFGHIJKLMNOPQRSTUVWXYZ[\\]^_`abcdefghijklmnopqrstuvwxyz{|}~") = sg at *
    refine ⟨_, rfl, _, rfl, _, rfl, _, rfl, small_size ls, p, _, rfl, T3.2, by omega, bd64 (by omega), fun H4 i5 t4 k0 k1 => ?_⟩
    obtain ⟨c5, hc5, _⟩ := atI_some (xs := sg.cps.toList) k0 (by
      have e : sg.cps.toList.length = sg.length := Array.length_toList
      omega)
    refine ⟨_, _, c5, rfl, rfl, small_size ls, hc5, ?_⟩
    exact ⟨_, rfl, _, rfl, _, rfl, _, rfl, small_size (by omega), _, rfl, _, _, rfl, rfl, s1 c5, _, rfl, _, rfl, _, rfl, .inl ⟨_, rfl, _, _, rfl, rfl, (show (2 : Int) ≠ 0 by decide), _, _, rfl, rfl, _, rfl, _, rfl, small_size (by omega), _, _, rfl, rfl, s2 c5, fin H4 c5 (T3.trans t4)⟩⟩
  · exact ⟨_, rfl, _, rfl, _, rfl, _, rfl, small_size (by omega), _, rfl, _, _, rfl, rfl, s1 c4, _, rfl, _, rfl, _, rfl, .inl ⟨_, rfl, _, _, rfl, rfl, (show (2 : Int) ≠ 0 by decide), _, _, rfl, rfl, _, rfl, _, rfl, small_size (by omega), _, _, rfl, rfl, s2 c4, fin H3 c4 T3⟩⟩
end
end K0
namespace K0
open PySem PySem.Spec PyProof.Rows L2 He HX KF
section
variable {P : Program} {w : World} {K : PySem.W.Frag} {mg : Str → Option Value} {base : Heap}
def NN__law_still : List PySem.Str := ["told", "one"]
theorem sc__law_still : FnScope NN__law_still ["told", "one"] (defScope (top 63)) := ⟨rfl, rfl, rfl, by decide +kernel, rfl, by decide +kernel, by decide +kernel⟩
theorem ok__law_still (h : HK K mg) (c__law_is : Cal P w K mg base 3 "_law_is" ["told", "num", "den"] (sp__law_is K)) (c__law_whole : CalW P w K mg base 1 "_law_whole" ["told"] (sp__law_whole K)) : Cal P w K mg base 4 "_law_still" ["told", "one"] (sp__law_still K) := by
  have F : FunD K "_law_still" "_law_still" (defArgs (top 63)) (defBody (top 63)) (defScope (top 63)) [] [] (ga K "_law_still") (fdA K (ga K "_law_still")) := h.says.funD 39
  have G : FnOk P w K mg base (L2.CX P w) (3 + 1) (ga K "_law_still") (fdA K (ga K "_law_still")) ["told", "one"] (sp__law_still K) := okX F sc__law_still (fun vs H Q E hs => by (repeat (obtain ⟨_, hs⟩ := hs)) <;> subst_vars <;> rfl) (fun cdv A outer s H vs Q E hr hs => ?_)
  · exact ⟨G, h.glo _, F.kp, F.bindsN (fun _ _ _ _ _ _ us hl => match us, hl with | [_, _], _ => rfl)⟩
  refine ⟨_, (pss_cons (ps_if (pt_val (pe_ix ix_tup (pv 1) pe_int (fun _ _ => rfl)))
        (pss_one (ps_ret (pe_and (pe_cal c__law_whole.cal hr passL (pa_cons (pv 0) pa_nil)) (pe_one (pe_cmpR op_eq (pv 0) (pe_ix ix_tup (pv 1) pe_int (fun _ _ => rfl)) (nomark _))))))
        pss_nil)
      (pss_one (ps_ret (pe_cal c__law_is hr passL (pa_cons (pv 0) (pa_cons (pe_ix ix_tup (pv 1) pe_int (fun _ _ => rfl)) (pa_cons (pe_ix ix_tup (pv 1) pe_int (fun _ _ => rfl)) pa_nil))))))), ?_⟩
  obtain ⟨v, a, n, d, fl, rfl, ⟨ha, hd, ln, ld, hf⟩, ⟨m1, m2⟩, hq⟩ := hs
  have bd : Bd 1000 d := Nat.lt_of_le_of_lt (show d.natAbs ≤ 10 ^ 12 from ld) (Nat.lt_of_lt_of_le (show 10 ^ 12 < 2 ^ 40 by decide) (Nat.pow_le_pow_right (by decide) (by decide)))
  refine ⟨_, rfl, a, _, _, _, rfl, rfl, ha, atI_nat (j := 2) rfl, _, rfl, ite2 (fun c => ?_) (fun c => ?_)⟩
  · have e := m1 c
    subst e
    refine ⟨_, rfl, _, rfl, _, rfl, iteT ⟨_, rfl, _, rfl, a, _, _, _, rfl, rfl, ha, atI_nat (j := 0) rfl, rfl, ?_⟩⟩
    rw [decide_eq_true rfl]
    exact hq H (Same.refl H)
  · obtain ⟨q, rfl, f⟩ := m2 (by simpa using c)
    exact ⟨_, rfl, _, rfl, a, _, _, _, rfl, rfl, ha, atI_nat (j := 0) rfl, _, rfl, a, _, _, _, rfl, rfl, ha, atI_nat (j := 1) rfl, q, n, d, rfl, hd, bd, f, hq⟩
end
end K0
namespace K0
open PySem PySem.Spec PyProof.Rows L2 He HX KF
def lw (r : Int × Int × Bool) : Int × Int := (lowN r.1 r.2.1, lowD r.1 r.2.1)
theorem Ones.same {K : PySem.W.Frag} {H H' : Hp} (e : Same H H') : ∀ {xs : List V} {rs : List (Int × Int × Bool)}, Ones K H xs rs → Ones K H' xs rs
  | [], [], _ => trivial
  | _ :: _, _ :: _, ⟨⟨a, h1, h2⟩, h5⟩ => ⟨⟨a, h1, h2.same e⟩, Ones.same e h5⟩
  | [], _ :: _, h => h.elim
  | _ :: _, [], h => h.elim
theorem Ones.len {K : PySem.W.Frag} {H : Hp} : ∀ {xs : List V} {rs : List (Int × Int × Bool)}, Ones K H xs rs → xs.length = rs.length
  | [], [], _ => rfl
  | _ :: _, _ :: _, ⟨_, h5⟩ => congrArg Nat.succ (Ones.len h5)
  | [], _ :: _, h => h.elim
  | _ :: _, [], h => h.elim
theorem Ones.get {K : PySem.W.Frag} {H : Hp} : ∀ {xs : List V} {rs : List (Int × Int × Bool)} {i : Nat} {x : V}, Ones K H xs rs → xs[i]? = some x → ∃ r a, rs[i]? = some r ∧ x = .ref a ∧ One K H a r.1 r.2.1 r.2.2
  | _ :: _, r :: _, 0, x, ⟨⟨a, h1, h2⟩, h5⟩, e => by
    cases e
    exact ⟨r, a, rfl, h1, h2⟩
  | _ :: _, _ :: _, i + 1, x, ⟨_, h5⟩, e => Ones.get (i := i) h5 e
  | [], _, _, _, _, e => by cases e
  | _ :: _, [], _, _, h, _ => h.elim
def Mades (K : PySem.W.Frag) (H : Hp) : List V → List (Int × Int × Bool) → Prop
  | [], [] => True
  | x :: xs, r :: rs => Made K H x r.1 r.2.1 r.2.2 ∧ Mades K H xs rs
  | _, _ => False
theorem Mades.same {K : PySem.W.Frag} {H H' : Hp} (e : Same H H') : ∀ {xs : List V} {rs : List (Int × Int × Bool)}, Mades K H xs rs → Mades K H' xs rs
  | [], [], _ => trivial
  | _ :: _, _ :: _, ⟨h1, h5⟩ => ⟨h1.same e, Mades.same e h5⟩
  | [], _ :: _, h => h.elim
  | _ :: _, [], h => h.elim
theorem Mades.snoc {K : PySem.W.Frag} {H : Hp} {x : V} {r : Int × Int × Bool} : ∀ {xs : List V} {rs : List (Int × Int × Bool)}, Mades K H xs rs → Made K H x r.1 r.2.1 r.2.2 → Mades K H (xs ++ [x]) (rs ++ [r])
  | [], [], _, h => ⟨h, trivial⟩
  | _ :: _, _ :: _, ⟨h1, h5⟩, h => ⟨h1, Mades.snoc h5 h⟩
  | [], _ :: _, h, _ => h.elim
  | _ :: _, [], h, _ => h.elim
theorem Mades.len {K : PySem.W.Frag} {H : Hp} : ∀ {xs : List V} {rs : List (Int × Int × Bool)}, Mades K H xs rs → xs.length = rs.length
  | [], [], _ => rfl
  | _ :: _, _ :: _, ⟨_, h5⟩ => congrArg Nat.succ (Mades.len h5)
  | [], _ :: _, h => h.elim
  | _ :: _, [], h => h.elim
theorem Mades.get {K : PySem.W.Frag} {H : Hp} : ∀ {xs : List V} {rs : List (Int × Int × Bool)} {i : Nat} {x : V} {r : Int × Int × Bool}, Mades K H xs rs → xs[i]? = some x → rs[i]? = some r → Made K H x r.1 r.2.1 r.2.2
  | _ :: _, _ :: _, 0, x, r, ⟨h1, h5⟩, e, e' => by
    cases e
    cases e'
    exact h1
  | _ :: _, _ :: _, i + 1, x, r, ⟨_, h5⟩, e, e' => Mades.get (i := i) h5 e e'
  | [], _, _, _, _, _, e, _ => by cases e
  | _ :: _, [], _, _, _, h, _, _ => h.elim
theorem Mades.updL {K : PySem.W.Frag} {H : Hp} {D : Addr} {zs zs' : List V} (hD : H D = some (.lst zs)) : ∀ {xs : List V} {rs : List (Int × Int × Bool)}, Mades K H xs rs → Mades K (upd H D (.lst zs')) xs rs
  | [], [], _ => trivial
  | _ :: _, _ :: _, ⟨h1, h5⟩ => ⟨⟨h1.1, fun z => by
    obtain ⟨q, e, dx, hq⟩ := h1.2 z
    refine ⟨q, e, dx, ?_⟩
    rw [upd_ne (fun w => by
      rw [w, hD] at hq
      cases hq)]
    exact hq⟩, Mades.updL hD h5⟩
  | [], _ :: _, h => h.elim
  | _ :: _, [], h => h.elim
def Oks (rs : List (Int × Int × Bool)) : Prop := ∀ r ∈ rs, r.2.1 ≠ 0 ∧ L12 r.1 ∧ L12 r.2.1 ∧ (r.2.2 = true → r.2.1 = 1)
theorem Ones.oks {K : PySem.W.Frag} {H : Hp} : ∀ {xs : List V} {rs : List (Int × Int × Bool)}, Ones K H xs rs → Oks rs
  | [], [], _ => fun r hr => by cases hr
  | _ :: _, r :: rs, ⟨⟨_, _, h2⟩, h5⟩ => fun z hz => by
    rcases List.mem_cons.mp hz with e | e
    · rw [e]
      exact h2.2
    · exact Ones.oks h5 z e
  | [], _ :: _, h => h.elim
  | _ :: _, [], h => h.elim
theorem Mades.nums {K : PySem.W.Frag} {H : Hp} : ∀ {xs : List V} {rs : List (Int × Int × Bool)}, Oks rs → Mades K H xs rs → Nums K H xs (rs.map lw)
  | [], [], _, _ => trivial
  | _ :: _, r :: _, o, ⟨h1, h5⟩ => by
    obtain ⟨c1, c2, c3, c4⟩ := o r List.mem_cons_self
    exact ⟨h1.num c4, lowD_pos c1, ((bd40 c2).lowN c1).mono (by decide), ((bd40 c3).lowD c1).mono (by decide), Mades.nums (fun z hz => o z (List.mem_cons_of_mem _ hz)) h5⟩
  | [], _ :: _, _, h => h.elim
  | _ :: _, [], _, h => h.elim
theorem Nums.snoc {K : PySem.W.Frag} {H : Hp} {x : V} {r : Int × Int} (h : Num K H x r.1 r.2) (h2 : 0 < r.2) (h3 : Bd 45 r.1) (h4 : Bd 45 r.2) : ∀ {xs : List V} {rs : List (Int × Int)}, Nums K H xs rs → Nums K H (xs ++ [x]) (rs ++ [r])
  | [], [], _ => ⟨h, h2, h3, h4, trivial⟩
  | _ :: _, _ :: _, ⟨a, b, c, d, e⟩ => ⟨a, b, c, d, Nums.snoc h h2 h3 h4 e⟩
  | [], _ :: _, h => h.elim
  | _ :: _, [], h => h.elim
theorem sumF_snoc (r : Int × Int) : ∀ (l : List (Int × Int)) (a : Int × Int), sumF a (l ++ [r]) = ((sumF a l).1 * r.2 + r.1 * (sumF a l).2, (sumF a l).2 * r.2)
  | [], a => rfl
  | x :: l, a => sumF_snoc r l _
theorem sumF_shift (k : Int) : ∀ (l : List (Int × Int)) (p q : Int), sumF (p + k * q, q) l = ((sumF (p, q) l).1 + k * (sumF (p, q) l).2, (sumF (p, q) l).2)
  | [], p, q => rfl
  | x :: l, p, q => by
    show sumF ((p + k * q) * x.2 + x.1 * q, q * x.2) l = _
    have e : (p + k * q) * x.2 + x.1 * q = (p * x.2 + x.1 * q) + k * (q * x.2) := by
      rw [Int.add_mul, Int.mul_assoc]
      omega
    rw [e]
    exact sumF_shift k l _ _
theorem due_step {x y m e N P : Int} (hy : y ≠ 0) (he : e ≠ 0) (h : x * P = N * y) : lowN (x * e + m * y) (y * e) * (P * lowD m e) = (N * lowD m e + lowN m e * P) * lowD (x * e + m * y) (y * e) := by
  have ye : y * e ≠ 0 := Int.mul_ne_zero hy he
  have c := low_cross (x * e + m * y) (y * e)
  have c2 := low_cross m e
  generalize lowN (x * e + m * y) (y * e) = u at *
  generalize lowD (x * e + m * y) (y * e) = v at *
  generalize lowN m e = m' at *
  generalize lowD m e = e' at *
  refine Int.eq_of_mul_eq_mul_right ye ?_
  calc u * (P * e') * (y * e) = (u * (y * e)) * (P * e') := by simp only [Int.mul_assoc, Int.mul_comm, Int.mul_left_comm]
    _ = ((x * e + m * y) * v) * (P * e') := by rw [c]
    _ = ((x * P) * e * e' + (m * e') * (y * P)) * v := by rw [Int.add_mul, Int.add_mul, Int.add_mul]; simp only [Int.mul_assoc, Int.mul_comm, Int.mul_left_comm]
    _ = ((N * y) * e * e' + (m' * e) * (y * P)) * v := by rw [h, c2]
    _ = (N * e' + m' * P) * v * (y * e) := by rw [Int.add_mul, Int.add_mul, Int.add_mul]; simp only [Int.mul_assoc, Int.mul_comm, Int.mul_left_comm]
theorem due_loop {K : PySem.W.Frag} {L q : Addr} {xs : List V} {rs : List (Int × Int × Bool)} {s0 : Int × Int} {x0 y0 : Int} {a0 a1 r0 r4 : Option V} {H : Hp} {D : Ends} (hL : SqL K H L xs) (ho : Ones K H xs rs) (hz : rs.length ≤ 8) (hq : SqT K H q [.int x0, .int y0]) (hy : y0 ≠ 0) (b1 : Bd 4 x0) (b2 : Bd 4 y0)
    (hx : x0 * s0.2 = s0.1 * y0)
    (k : ∀ H' q' x y r', Same H H' → SqT K H' q' [.int x, .int y] → y ≠ 0 → Bd 400 x → Bd 400 y → x * (sumF s0 (rs.map lw)).2 = (sumF s0 (rs.map lw)).1 * y → D.nx [a0, a1, r', some (.ref q'), r4] H') :
    ∃ W : Nat → Nat → L2.St → Hp → Prop, (∃ m, W 0 m [a0, a1, r0, some (.ref q), r4] H) ∧ ∀ i m σ H, W i m σ H →
      ((Itl K L).stop i H ∧ D.nx σ H) ∨ ((Itl K L).go i H ∧ ∃ N : L2.St → Hp → Prop, (∀ σ' H', N σ' H' → ∃ m', m' < m ∧ W (i + 1) m' σ' H') ∧ ∀ x H', (Itl K L).yld i H x H' → gName 2 x σ H' fun σ2 H2 => tAsg (tCall (sp__law_plus K) [] E0 (tCons (tVar 3) (tCons (tVar 2) tNil))) (gName 3) { D with nx := N, ct := N, bk := D.nx } σ2 H2) := by
  have hl := ho.len
  refine for_list (K := K) (a := L) (xs := xs) (fun i σ H' => Same H H' ∧ ∃ (q' : Addr) (x y : Int) (r : Option V), σ = [a0, a1, r, some (.ref q'), r4] ∧ SqT K H' q' [.int x, .int y] ∧ y ≠ 0 ∧ Bd (41 * i + 4) x ∧ Bd (41 * i + 4) y ∧
    x * (sumF s0 ((rs.take i).map lw)).2 = (sumF s0 ((rs.take i).map lw)).1 * y) ⟨Same.refl H, q, x0, y0, r0, rfl, hq, hy, b1, b2, hx⟩ ?_ ?_ ?_
  · rintro i σ H' _ ⟨S, _⟩
    exact S.seq hL
  · rintro i v σ H' hv ⟨S, q', x, y, r, rfl, ht, hy', bx, by', he⟩
    obtain ⟨rr, a, hr, rfl, h1⟩ := (ho.same S).get hv
    obtain ⟨g1, g2, g3, g4, g5⟩ := id h1
    have hi : i < xs.length := by
      obtain ⟨w, _⟩ := List.getElem?_eq_some_iff.mp hv
      exact w
    have be := bd40 g4
    have bm := bd40 g3
    refine ⟨_, rfl, _, rfl, q', a, x, y, rr.1, rr.2.1, [], [.bl rr.2.2], rfl, ht, g1, hy', g2, bx.mono (by omega), by'.mono (by omega), bm.mono (by decide), be.mono (by decide), fun H2 q2 s2 ht2 => ⟨S.trans s2, q2, _, _, _, rfl, ht2, ?_, ?_, ?_, ?_⟩⟩
    · exact Int.ne_of_gt (lowD_pos (Int.mul_ne_zero hy' g2))
    · have p1 : Bd (41 * i + 4 + 40) (x * rr.2.1) := Bd.mul bx be
      have p2 : Bd (41 * i + 4 + 40) (rr.1 * y) := (Bd.mul bm by').mono (by omega)
      exact ((Bd.add p1 p2).lowN (Int.mul_ne_zero hy' g2)).mono (by omega)
    · exact ((Bd.mul by' be).lowD (Int.mul_ne_zero hy' g2)).mono (by omega)
    · rw [List.take_succ, hr]
      show _ * (sumF s0 ((rs.take i ++ [rr]).map lw)).2 = (sumF s0 ((rs.take i ++ [rr]).map lw)).1 * _
      rw [List.map_append, show ([rr].map lw) = [lw rr] from rfl, sumF_snoc]
      exact due_step hy' g2 he
  · rintro σ H' ⟨S, q', x, y, r, rfl, ht, hy', bx, by', he⟩
    rw [hl, List.take_length] at he
    exact k H' q' x y r S ht hy' (bx.mono (by omega)) (by'.mono (by omega)) he
section
variable {P : Program} {w : World} {K : PySem.W.Frag} {mg : Str → Option Value} {base : Heap}
def NN__law_sums : List PySem.Str := ["numbers", "row", "one", "due", "told"]
theorem sc__law_sums : FnScope NN__law_sums ["numbers"] (defScope (top 69)) := ⟨rfl, rfl, rfl, by decide +kernel, rfl, by decide +kernel, by decide +kernel⟩
theorem ok__law_sums (h : HK K mg) (c_FR : CalF P w K mg base) (c_Frac_sum_of : CalS P w K mg base 5 "Frac" "sum_of" ["numbers"] (sp_Frac_sum_of K)) (c__law_is : Cal P w K mg base 3 "_law_is" ["told", "num", "den"] (sp__law_is K)) (c__law_made : Cal P w K mg base 5 "_law_made" ["one"] (sp__law_made K)) (c__law_plus : Cal P w K mg base 3 "_law_plus" ["one", "two"] (sp__law_plus K)) (c__law_still : Cal P w K mg base 4 "_law_still" ["told", "one"] (sp__law_still K)) : Cal P w K mg base 8 "_law_sums" ["numbers"] (sp__law_sums K) := by
  have F : FunD K "_law_sums" "_law_sums" (defArgs (top 69)) (defBody (top 69)) (defScope (top 69)) [] [] (ga K "_law_sums") (fdA K (ga K "_law_sums")) := h.says.funD 45
  have G : FnOk P w K mg base (L2.CX P w) (7 + 1) (ga K "_law_sums") (fdA K (ga K "_law_sums")) ["numbers"] (sp__law_sums K) := okX F sc__law_sums (fun vs H Q E hs => by (repeat (obtain ⟨_, hs⟩ := hs)) <;> subst_vars <;> rfl) (fun cdv A outer s H vs Q E hr hs => ?_)
  · exact ⟨G, h.glo _, F.kp, F.bindsN (fun _ _ _ _ _ _ us hl => match us, hl with | [_], _ => rfl)⟩
  refine ⟨_, (pss_cons (ps_setLc (i := 1) (own := [("one", 2)]) (g := gName 2) (by rfl) sc__law_sums.nd rfl rfl (sw_true rfl rfl rfl (by decide +kernel)) (pi_list (pv 0)) (blkOk_by (own := [("one", 2)]) (N := NN__law_sums) (sc := defScope (top 69)) (by decide +kernel)) (fun _ _ _ _ _ => pg_name (i := 2) sc__law_sums.nd rfl (Or.inl rfl)) (fun _ _ _ _ _ => pts_nil) (fun _ _ _ _ _ => (pe_cal c__law_made hr passL (pa_cons (pv 2) pa_nil))))
      (pss_cons (ps_set (i := 3) sc__law_sums.nd rfl (by first | exact Or.inl rfl | exact Or.inr rfl) (pe_tup (pa_cons pe_int (pa_cons pe_int pa_nil))))
      (pss_cons (ps_for (passes_of rfl) (by rfl) (pi_list (pv 0)) (pg_name (i := 2) sc__law_sums.nd rfl (by first | exact Or.inl rfl | exact Or.inr rfl))
        (pss_one (ps_set (i := 3) sc__law_sums.nd rfl (by first | exact Or.inl rfl | exact Or.inr rfl) (pe_cal c__law_plus hr passL (pa_cons (pv 3) (pa_cons (pv 2) pa_nil))))))
      (pss_cons (ps_if (pt_not (pt_val (pe_cal c__law_is hr passL (pa_cons (pe_calS c_Frac_sum_of hr passL (pa_cons (pv 1) pa_nil)) (pa_cons (pe_ix ix_tup (pv 3) pe_int (fun _ _ => rfl)) (pa_cons (pe_ix ix_tup (pv 3) pe_int (fun _ _ => rfl)) pa_nil))))))
        (pss_one (ps_ret pe_bl))
        pss_nil)
      (pss_cons (ps_if (pt_not (pt_val (pe_cal c__law_is hr passL (pa_cons (pe_calS c_Frac_sum_of hr passL (pa_cons (pe_callTy call_tuple_of (by rfl) (h.free "tuple") (by decide +kernel) (pa_cons (pv 1) pa_nil)) pa_nil)) (pa_cons (pe_ix ix_tup (pv 3) pe_int (fun _ _ => rfl)) (pa_cons (pe_ix ix_tup (pv 3) pe_int (fun _ _ => rfl)) pa_nil))))))
        (pss_one (ps_ret pe_bl))
        pss_nil)
      (pss_cons (ps_if (pt_cmpR op_ne (pe_callB call_len_seq (by rfl) (h.free "len") (by decide +kernel) (pa_cons (pv 1) pa_nil)) (pe_callB call_len_seq (by rfl) (h.free "len") (by decide +kernel) (pa_cons (pv 0) pa_nil)) (nomark _))
        (pss_one (ps_ret pe_bl))
        pss_nil)
      (pss_cons (ps_for (passes_of rfl) (by rfl) (pi_zip (by rfl) (h.free "zip") (pa_cons (pv 1) (pa_cons (pv 0) pa_nil))) (pg_tup (by rfl) (pgs_cons (pg_name (i := 4) sc__law_sums.nd rfl (by first | exact Or.inl rfl | exact Or.inr rfl)) (pgs_cons (pg_name (i := 2) sc__law_sums.nd rfl (by first | exact Or.inl rfl | exact Or.inr rfl)) pgs_nil)))
        (pss_one (ps_if (pt_not (pt_val (pe_cal c__law_still hr passL (pa_cons (pv 4) (pa_cons (pv 2) pa_nil)))))
          (pss_one (ps_ret pe_bl))
          pss_nil)))
      (pss_cons (ps_expr (pe_bm PySem.F.plainAttrs_list PySem.F.slot_list_append PySem.F.type_list_append mt_append (pv 1) (pa_cons pe_int pa_nil)))
      (pss_cons (ps_asg (pe_fr2 c_FR hr (pa_cons pe_int (pa_cons pe_int pa_nil))) (pg_sub (pv 1) pe_int set_list))
      (pss_cons (ps_set (i := 3) sc__law_sums.nd rfl (by first | exact Or.inl rfl | exact Or.inr rfl) (pe_tup (pa_cons pe_int (pa_cons pe_int pa_nil))))
      (pss_cons (ps_for (passes_of rfl) (by rfl) (pi_list (pe_slice sl_list (pv 0) (po_some pe_int) po_none)) (pg_name (i := 2) sc__law_sums.nd rfl (by first | exact Or.inl rfl | exact Or.inr rfl))
        (pss_one (ps_set (i := 3) sc__law_sums.nd rfl (by first | exact Or.inl rfl | exact Or.inr rfl) (pe_cal c__law_plus hr passL (pa_cons (pv 3) (pa_cons (pv 2) pa_nil))))))
      (pss_cons (ps_if (pt_not (pt_val (pe_cal c__law_is hr passL (pa_cons (pe_calS c_Frac_sum_of hr passL (pa_cons (pv 1) pa_nil)) (pa_cons (pe_ix ix_tup (pv 3) pe_int (fun _ _ => rfl)) (pa_cons (pe_ix ix_tup (pv 3) pe_int (fun _ _ => rfl)) pa_nil))))))
        (pss_one (ps_ret pe_bl))
        pss_nil)
      (pss_one (ps_ret (pe_cal c__law_is hr passL (pa_cons (pe_calS c_Frac_sum_of hr passL (pa_cons (pe_lst pa_nil) pa_nil)) (pa_cons pe_int (pa_cons pe_int pa_nil)))))))))))))))))), ?_⟩
  obtain ⟨l, xs, rs, rfl, hl, hn, hpos, hz, hq⟩ := hs
  have ff := h.ff
  have hlen := hn.len
  have oks := hn.oks
  refine ⟨_, rfl, l, rfl, ⟨_, hl⟩, fun D hD => lc_list (K := K) (a := l) (xs := xs) (fun i H' => Same H H' ∧ ∃ ys, H' D = some (.lst ys) ∧ Mades K H' ys (rs.take i)) ⟨same_upd hD, [], upd_same, trivial⟩ ?_ ?_ ?_⟩
  · rintro i H' _ ⟨S, _⟩
    exact S.seq hl
  · rintro i v H' hv ⟨S, ys, hy, hm⟩
    obtain ⟨rr, a, hr, rfl, h1⟩ := (hn.same S).get hv
    have hi : i < xs.length := by
      obtain ⟨w, _⟩ := List.getElem?_eq_some_iff.mp hv
      exact w
    have ly := hm.len
    refine ⟨rfl, _, rfl, a, _, _, _, rfl, h1, fun H2 y s2 my => ⟨ys, s2 _ _ hy, small_lt (by rw [ly, List.length_take]; omega), ?_⟩⟩
    refine ⟨upd_again (S.trans s2) hD, _, upd_same, ?_⟩
    have e : rs.take (i + 1) = rs.take i ++ [rr] := by
      rw [List.take_succ, hr]
      rfl
    rw [e]
    exact Mades.updL (s2 _ _ hy) ((hm.same s2).snoc my)
  rintro H1 ⟨S1, ys, hy, hm⟩
  rw [hlen, List.take_length] at hm
  have ly := hm.len
  refine ⟨two_size, fun q0 hq0 => ?_⟩
  have s2 := same_upd (o := .tup [.int 0, .int 1]) hq0
  have S2 := S1.trans s2
  refine ⟨_, rfl, l, rfl, ⟨_, S2.seq hl⟩, due_loop (s0 := (0, 1)) (S2.seq hl) (hn.same S2) (by omega) (SqT.of upd_same) (by decide) (by unfold Bd; decide) (by unfold Bd; decide) (by decide) fun H3 q3 x y r3 s3 ht hy0 bx by' he => ?_⟩
  have S3 := S2.trans s3
  have hy3 := s3 _ _ (s2 _ _ hy)
  have hm3 := (hm.same s2).same s3
  have nm := hm3.nums oks
  have pos : (sumF (0, 1) (rs.map lw)).2 ≠ 0 := Int.ne_of_gt (sumF_pos _ 0 1 (by decide) fun r hr => by
    obtain ⟨z, hz', rfl⟩ := List.mem_map.mp hr
    exact lowD_pos (oks z hz').1)
  have eq1 := low_eq pos hy0 (show (sumF (0, 1) (rs.map lw)).1 * y = x * (sumF (0, 1) (rs.map lw)).2 from he.symm)
  refine ⟨_, rfl, D, ys, rs.map lw, rfl, .inl (SqL.of hy3), nm, by omega, fun H4 q4 s4 f4 => ?_⟩
  rw [eq1.1, eq1.2] at f4
  refine ⟨_, rfl, q3, _, _, _, rfl, rfl, s4.tup ht, atI_nat (j := 0) rfl, _, rfl, q3, _, _, _, rfl, rfl, s4.tup ht, atI_nat (j := 1) rfl, q4, x, y, rfl, hy0, by'.mono (by decide), f4, fun H5 s5 => ⟨_, rfl, iteF ?_⟩⟩
  have T5 := s4.trans s5
  refine ⟨_, rfl, D, ys, rfl, .inl ⟨SqL.of (T5 _ _ hy3), fun t ht' => ?_⟩⟩
  have s6 := same_upd (o := .tup ys) ht'
  have T6 := T5.trans s6
  refine ⟨t, ys, rs.map lw, rfl, .inr (SqT.of upd_same), nm.same T6, by omega, fun H7 q7 s7 f7 => ?_⟩
  rw [eq1.1, eq1.2] at f7
  have T7 := T6.trans s7
  refine ⟨_, rfl, q3, _, _, _, rfl, rfl, T7.tup ht, atI_nat (j := 0) rfl, _, rfl, q3, _, _, _, rfl, rfl, T7.tup ht, atI_nat (j := 1) rfl, q7, x, y, rfl, hy0, by'.mono (by decide), f7, fun H8 s8 => ⟨_, rfl, iteF ?_⟩⟩
  have T8 := T7.trans s8
  have S8 := S3.trans T8
  refine ⟨_, rfl, D, ys, rfl, .inl (SqL.of (T8 _ _ hy3)), _, rfl, l, xs, rfl, .inl (S8.seq hl), rfl, _, rfl, ?_⟩
  rw [show ((ys.length : Nat) : Int) = xs.length by omega]
  refine iteNS rfl ?_
  -- zip
  refine ⟨_, rfl, _, rfl, D, l, ys, xs, rfl, SqL.of (T8 _ _ hy3), S8.seq hl, RZ.for_zipL (xs := ys) (ys := xs) (show ys.length = xs.length by omega) (fun i σ H' => Same H8 H' ∧ ∃ r r' : Option V, σ = [some (.ref l), some (.ref D), r, some (.ref q3), r']) ⟨Same.refl _, _, _, rfl⟩ ?_ ?_ ?_⟩
  · rintro i σ H' ⟨S, _⟩
    exact ⟨SqL.of (S _ _ (T8 _ _ hy3)), S.seq (S8.seq hl)⟩
  · rintro i v v2 T σ H' hv hv2 ⟨S, r, r', rfl⟩ hT
    have sT := same_upd (o := .tup [v, v2]) hT
    obtain ⟨rr, a, hr, rfl, h1⟩ := (hn.same ((S8.trans S).trans sT)).get hv2
    have mv := ((hm3.same T8).same (S.trans sT)).get hv hr
    refine ⟨T, _, rfl, SqT.of upd_same, rfl, _, _, rfl, _, _, rfl, rfl, ?_⟩
    exact ⟨_, rfl, _, rfl, v, a, _, _, _, rfl, h1, mv, fun H9 s9 => ⟨_, rfl, iteF ⟨(S.trans sT).trans s9, _, _, rfl⟩⟩⟩
  rintro σ H9 ⟨s9, r, r', rfl⟩
  have T9 := T8.trans s9
  have hy9 := T9 _ _ hy3
  have hm9 := hm3.same T9
  have S9 := S3.trans T9
  have hDn : H D = none := hD
  -- row.append(3)
  refine ⟨_, rfl, .inl ⟨rfl, _, SqL.of hy9⟩, D, ys, _, rfl, rfl, hy9, small_lt (by omega), ?_⟩
  have hm10 := Mades.updL (zs' := ys ++ [.int 3]) hy9 hm9
  have S10 : Same H (upd H9 D (.lst (ys ++ [.int 3]))) := upd_again S9 hDn
  refine ⟨1, 2, rfl, by decide, by unfold Bd; decide, fun H11 f s11 nf ff11 => ?_⟩
  have hy11 : H11 D = some (.lst (ys ++ [.int 3])) := s11 _ _ upd_same
  obtain ⟨y0, ys', ey⟩ : ∃ y0 ys', ys = y0 :: ys' := by
    cases ys with
    | nil =>
      rw [hlen, ← ly] at hpos
      exact absurd hpos (by simp)
    | cons y0 ys' => exact ⟨y0, ys', rfl⟩
  obtain ⟨r0, rs', er⟩ : ∃ r0 rs', rs = r0 :: rs' := by
    cases rs with
    | nil =>
      rw [hlen] at hpos
      exact absurd hpos (by simp)
    | cons r0 rs' => exact ⟨r0, rs', rfl⟩
  obtain ⟨x0, xs', ex⟩ : ∃ x0 xs', xs = x0 :: xs' := by
    cases xs with
    | nil =>
      simp at hpos
    | cons x0 xs' => exact ⟨x0, xs', rfl⟩
  subst ey er ex
  have setw : ∃ j, ixN ((y0 :: ys') ++ [V.int 3]).length 0 = some j ∧ ((y0 :: ys') ++ [V.int 3]).set j (.ref f) = (.ref f :: ys') ++ [V.int 3] := ⟨0, by simp [ixN]; omega, rfl⟩
  obtain ⟨j, j1, j2⟩ := setw
  refine ⟨_, rfl, D, _, _, j, rfl, rfl, hy11, j1, ?_⟩
  rw [j2]
  have hm12 := Mades.updL (zs' := (.ref f :: ys') ++ [V.int 3]) hy11 (hm10.same s11)
  have S12 : Same H (upd H11 D (.lst ((.ref f :: ys') ++ [V.int 3]))) := upd_again (S10.trans s11) hDn
  have ff12 : FracAt K (upd H11 D (.lst ((.ref f :: ys') ++ [V.int 3]))) f 1 2 := by
    rw [(low_self (p := 1) (q := 2) (by decide) (by decide)).1, (low_self (p := 1) (q := 2) (by decide) (by decide)).2] at ff11
    obtain ⟨dx, e⟩ := ff11
    refine ⟨dx, ?_⟩
    rw [upd_ne (fun w => by
      rw [w, hy11] at e
      cases e)]
    exact e
  have hy12 : (upd H11 D (.lst ((.ref f :: ys') ++ [V.int 3]))) D = some (.lst ((.ref f :: ys') ++ [V.int 3])) := upd_same
  generalize (upd H11 D (.lst ((.ref f :: ys') ++ [V.int 3]))) = H12 at *
  refine ⟨two_size, fun q13 hq13 => ?_⟩
  have s13 := same_upd (o := .tup [.int 7, .int 2]) hq13
  have S13 := S12.trans s13
  refine ⟨_, rfl, _, rfl, l, _, rfl, S13.seq hl, fun p hp => ?_⟩
  have cu : cutV (x0 :: xs') (some 1) none = xs' := by
    unfold cutV
    rw [show HT.sIx (x0 :: xs').length 0 (some 1) = 1 by
      have := HT.sIx_nat (x0 :: xs').length 0 1
      rw [show (some ((1 : Nat) : Int)) = some (1 : Int) from rfl] at this
      rw [this]
      simp, HT.sIx_none]
    simp
  rw [cu]
  have s14 := same_upd (o := .lst xs') hp
  have S14 := S13.trans s14
  have on' : Ones K (upd (upd H12 q13 (.tup [.int 7, .int 2])) p (.lst xs')) xs' rs' := (hn.same S14).2
  refine ⟨p, rfl, ⟨_, SqL.of upd_same⟩, due_loop (s0 := (7, 2)) (SqL.of upd_same) on' (by simp at hlen hz; omega) (SqT.of (s14 _ _ upd_same)) (by decide) (by unfold Bd; decide) (by unfold Bd; decide) (by decide) fun H15 q15 x' y' r15 s15 ht' hy0' bx' by'' he' => ?_⟩
  have T15 := (s13.trans s14).trans s15
  have nm' : Nums K H15 ((.ref f :: ys') ++ [V.int 3]) (((1, 2) :: rs'.map lw) ++ [(3, 1)]) := by
    refine Nums.snoc (x := .int 3) (r := (3, 1)) (xs := .ref f :: ys') (rs := (1, 2) :: rs'.map lw) (.inl ⟨rfl, rfl⟩) (by decide) (by unfold Bd; decide) (by unfold Bd; decide) ⟨.inr ⟨f, rfl, ff12.same T15⟩, by decide, by unfold Bd; decide, by unfold Bd; decide, ?_⟩
    exact ((Mades.nums oks hm12).2.2.2.2).same T15
  have e7 : sumF (7, 2) (rs'.map lw) = ((sumF (1, 2) (rs'.map lw)).1 + 3 * (sumF (1, 2) (rs'.map lw)).2, (sumF (1, 2) (rs'.map lw)).2) := sumF_shift 3 _ 1 2
  have e8 : sumF (0, 1) (((1, 2) :: rs'.map lw) ++ [(3, 1)]) = ((sumF (1, 2) (rs'.map lw)).1 * 1 + 3 * (sumF (1, 2) (rs'.map lw)).2, (sumF (1, 2) (rs'.map lw)).2 * 1) := sumF_snoc (3, 1) ((1, 2) :: rs'.map lw) (0, 1)
  have pos' : (sumF (1, 2) (rs'.map lw)).2 ≠ 0 := Int.ne_of_gt (sumF_pos _ 1 2 (by decide) fun r hr => by
    obtain ⟨z, hz', rfl⟩ := List.mem_map.mp hr
    exact lowD_pos (oks z (List.mem_cons_of_mem _ hz')).1)
  refine ⟨_, rfl, D, _, _, rfl, .inl (SqL.of (T15 _ _ hy12)), nm', by simp at ly hz hlen ⊢; omega, fun H16 q16 s16 f16 => ?_⟩
  rw [e8, Int.mul_one, Int.mul_one] at f16
  rw [e7] at he'
  have eq2 := low_eq pos' hy0' he'.symm
  rw [eq2.1, eq2.2] at f16
  refine ⟨_, rfl, q15, _, _, _, rfl, rfl, s16.tup ht', atI_nat (j := 0) rfl, _, rfl, q15, _, _, _, rfl, rfl, s16.tup ht', atI_nat (j := 1) rfl, q16, x', y', rfl, hy0', by''.mono (by decide), f16, fun H17 s17 => ⟨_, rfl, iteF ?_⟩⟩
  refine ⟨size0, fun z hz' => ?_⟩
  refine ⟨z, [], [], rfl, .inl (SqL.of upd_same), trivial, by decide, fun H18 q18 s18 f18 => ?_⟩
  exact ⟨q18, 0, 1, rfl, by decide, bd1, f18, fun H19 s19 => hq _ ((((((S14.trans s15).trans s16).trans s17).trans (same_upd hz')).trans s18).trans s19)⟩
end
end K0
namespace K0
open PySem PySem.Spec PyProof.Rows L2 He HX KF
section
variable {P : Program} {w : World} {K : PySem.W.Frag} {mg : Str → Option Value} {base : Heap}
def NN__law_text : List PySem.Str := ["low"]
theorem sc__law_text : FnScope NN__law_text ["low"] (defScope (top 64)) := ⟨rfl, rfl, rfl, by decide +kernel, rfl, by decide +kernel, by decide +kernel⟩
theorem ok__law_text (h : HK K mg) : Cal P w K mg base 1 "_law_text" ["low"] (sp__law_text K) := by
  have F : FunD K "_law_text" "_law_text" (defArgs (top 64)) (defBody (top 64)) (defScope (top 64)) [] [] (ga K "_law_text") (fdA K (ga K "_law_text")) := h.says.funD 40
  have G : FnOk P w K mg base (L2.CX P w) (0 + 1) (ga K "_law_text") (fdA K (ga K "_law_text")) ["low"] (sp__law_text K) := okX F sc__law_text (fun vs H Q E hs => by (repeat (obtain ⟨_, hs⟩ := hs)) <;> subst_vars <;> rfl) (fun cdv A outer s H vs Q E hr hs => ?_)
  · exact ⟨G, h.glo _, F.kp, F.bindsN (fun _ _ _ _ _ _ us hl => match us, hl with | [_], _ => rfl)⟩
  refine ⟨_, (pss_cons (ps_if (pt_cmpR op_eq (pe_ix ix_tup (pv 0) pe_int (fun _ _ => rfl)) pe_int (nomark _))
        (pss_one (ps_ret (pe_callTy call_str_int (by rfl) (h.free "str") (by decide +kernel) (pa_cons (pe_ix ix_tup (pv 0) pe_int (fun _ _ => rfl)) pa_nil))))
        pss_nil)
      (pss_one (ps_ret (pe_op op_add_str (pe_op op_add_str (pe_callTy call_str_int (by rfl) (h.free "str") (by decide +kernel) (pa_cons (pe_ix ix_tup (pv 0) pe_int (fun _ _ => rfl)) pa_nil)) pe_str) (pe_callTy call_str_int (by rfl) (h.free "str") (by decide +kernel) (pa_cons (pe_ix ix_tup (pv 0) pe_int (fun _ _ => rfl)) pa_nil)))))), ?_⟩
  obtain ⟨a, n, d, rfl, ha, bn, bd, hq⟩ := hs
  have ll : ∀ {x : Int}, Bd 45 x → x.natAbs.log2 < 1920 := fun {x} b => Nat.lt_of_lt_of_le (PySem.Flt.log2_lt_of (by decide) b) (by decide)
  refine ⟨_, rfl, a, _, _, _, rfl, rfl, ha, atI_nat (j := 1) rfl, rfl, _, rfl, ite2 (fun c => ?_) (fun c => ?_)⟩
  · have e : d = 1 := by simpa using c
    refine ⟨_, rfl, a, _, _, _, rfl, rfl, ha, atI_nat (j := 0) rfl, _, rfl, ll bn, ?_⟩
    unfold txt at hq
    rw [if_pos e] at hq
    exact hq
  · have e : d ≠ 1 := fun z => c (by simp [z])
    refine ⟨_, rfl, a, _, _, _, rfl, rfl, ha, atI_nat (j := 0) rfl, _, rfl, ll bn, _, _, rfl, rfl, ?_, _, rfl, a, _, _, _, rfl, rfl, ha, atI_nat (j := 1) rfl, _, rfl, ll bd, _, _, rfl, rfl, ?_, ?_⟩
    · exact txt_size1 bn
    · exact txt_size2 bn bd
    · unfold txt at hq
      rw [if_neg e] at hq
      exact hq
end
end K0
namespace K0
open PySem PySem.Spec PyProof.Rows L2 He HX KF
section
variable {P : Program} {w : World} {K : PySem.W.Frag} {mg : Str → Option Value} {base : Heap}
def NN__law_truth : List PySem.Str := ["told", "due"]
theorem sc__law_truth : FnScope NN__law_truth ["told", "due"] (defScope (top 55)) := ⟨rfl, rfl, rfl, by decide +kernel, rfl, by decide +kernel, by decide +kernel⟩
theorem ok__law_truth (h : HK K mg) : Cal P w K mg base 1 "_law_truth" ["told", "due"] (sp__law_truth K) := by
  have F : FunD K "_law_truth" "_law_truth" (defArgs (top 55)) (defBody (top 55)) (defScope (top 55)) [] [] (ga K "_law_truth") (fdA K (ga K "_law_truth")) := h.says.funD 31
  have G : FnOk P w K mg base (L2.CX P w) (0 + 1) (ga K "_law_truth") (fdA K (ga K "_law_truth")) ["told", "due"] (sp__law_truth K) := okX F sc__law_truth (fun vs H Q E hs => by (repeat (obtain ⟨_, hs⟩ := hs)) <;> subst_vars <;> rfl) (fun cdv A outer s H vs Q E hr hs => ?_)
  · exact ⟨G, h.glo _, F.kp, F.bindsN (fun _ _ _ _ _ _ us hl => match us, hl with | [_, _], _ => rfl)⟩
  refine ⟨_, (pss_one (ps_ret (pe_and (pe_callB call_isi (by rfl) (h.free "isinstance") (by decide +kernel) (pa_cons (pv 0) (pa_cons (pe_bltn (v := .ty "bool") (by rfl) (h.free "bool") (by decide +kernel) rfl) pa_nil))) (pe_one (pe_cmpR op_eq (pv 0) (pv 1) (nomark _)))))), ?_⟩
  obtain ⟨a, b, rfl, hq⟩ := hs
  refine ⟨_, rfl, _, _, _, _, _, rfl, .ty _, .base (.bl _), kit_ty (by decide +kernel), _, rfl, iteT ⟨_, rfl, _, rfl, rfl, ?_⟩⟩
  rw [show decide (V.bl a = V.bl b) = decide (a = b) by simp]
  exact hq
end
end K0
namespace K0
open PySem PySem.Spec PyProof.Rows L2 He HX KF
section
variable {P : Program} {w : World} {K : PySem.W.Frag} {mg : Str → Option Value} {base : Heap}
def NN__law_twin : List PySem.Str := ["pool", "one", "times"]
theorem sc__law_twin : FnScope NN__law_twin ["pool", "one"] (defScope (top 61)) := ⟨rfl, rfl, rfl, by decide +kernel, rfl, by decide +kernel, by decide +kernel⟩
theorem ok__law_twin (h : HK K mg) (c__law_draw : Cal P w K mg base 1 "_law_draw" ["pool", "many"] (sp__law_draw K)) : Cal P w K mg base 2 "_law_twin" ["pool", "one"] (sp__law_twin K) := by
  have F : FunD K "_law_twin" "_law_twin" (defArgs (top 61)) (defBody (top 61)) (defScope (top 61)) [] [] (ga K "_law_twin") (fdA K (ga K "_law_twin")) := h.says.funD 37
  have G : FnOk P w K mg base (L2.CX P w) (1 + 1) (ga K "_law_twin") (fdA K (ga K "_law_twin")) ["pool", "one"] (sp__law_twin K) := okX F sc__law_twin (fun vs H Q E hs => by (repeat (obtain ⟨_, hs⟩ := hs)) <;> subst_vars <;> rfl) (fun cdv A outer s H vs Q E hr hs => ?_)
  · exact ⟨G, h.glo _, F.kp, F.bindsN (fun _ _ _ _ _ _ us hl => match us, hl with | [_, _], _ => rfl)⟩
  refine ⟨_, (pss_cons (ps_set (i := 2) sc__law_twin.nd rfl (by first | exact Or.inl rfl | exact Or.inr rfl) (pe_op op_add pe_int (pe_cal c__law_draw hr passL (pa_cons (pv 0) (pa_cons pe_int pa_nil)))))
      (pss_cons (ps_if (PW.pt (pw_or (pt_cmpR op_gt (pe_callB call_abs (by rfl) (h.free "abs") (by decide +kernel) (pa_cons (pe_ix ix_tup (pv 1) pe_int (fun _ _ => rfl)) pa_nil)) (pe_op op_pow pe_int pe_int) (nomark _)) (pw_or1 (pt_cmpR op_gt (pe_callB call_abs (by rfl) (h.free "abs") (by decide +kernel) (pa_cons (pe_ix ix_tup (pv 1) pe_int (fun _ _ => rfl)) pa_nil)) (pe_op op_pow pe_int pe_int) (nomark _)))))
        (pss_one (ps_ret (pe_tup (pa_cons (pe_ix ix_tup (pv 1) pe_int (fun _ _ => rfl)) (pa_cons (pe_ix ix_tup (pv 1) pe_int (fun _ _ => rfl)) (pa_cons pe_bl pa_nil))))))
        pss_nil)
      (pss_cons (ps_if (pt_cmpR op_eq (pe_cal c__law_draw hr passL (pa_cons (pv 0) (pa_cons pe_int pa_nil))) pe_int (nomark _))
        (pss_one (ps_set (i := 2) sc__law_twin.nd rfl (by first | exact Or.inl rfl | exact Or.inr rfl) (pe_un un_neg (pv 2))))
        pss_nil)
      (pss_one (ps_ret (pe_tup (pa_cons (pe_op op_mulW (pe_ix ix_tup (pv 1) pe_int (fun _ _ => rfl)) (pv 2)) (pa_cons (pe_op op_mulW (pe_ix ix_tup (pv 1) pe_int (fun _ _ => rfl)) (pv 2)) (pa_cons pe_bl pa_nil))))))))), ?_⟩
  obtain ⟨p, a, n, d, fl, rfl, hp, ⟨ha, hd, ln, ld, hf⟩, hq⟩ := hs
  have i11 : (10 : Int) ^ (11 : Int).toNat = 100000000000 := by decide
  have cp11 : CPow 10 11 := ⟨by decide, by decide, by decide⟩
  have l12 : ∀ {x : Int}, -1000000000000 ≤ x → x ≤ 1000000000000 → L12 x := fun {x} a b => by
    unfold L12
    have : (10 : Nat) ^ 12 = 1000000000000 := by decide
    omega
  have fin : ∀ (H' : Hp) (t : Addr) (n d : Int), PoolTo p H H' → H' t = none → d ≠ 0 → L12 n → L12 d → Q (.ref t) (upd H' t (.tup [.int n, .int d, .bl false])) := fun H' t n d a b c1 c2 c3 =>
    hq _ t n d false (a.upd b) ⟨SqT.of upd_same, c1, c2, c3, fun z => by cases z⟩
  refine ⟨_, rfl, p, _, rfl, hp, by decide, bd64 (by decide), fun H1 u t1 u0 u1 => ⟨_, _, rfl, rfl, ?_⟩⟩
  have ha1 := t1.tup hp ha
  have asis : ∀ t, H1 t = none → Q (.ref t) (upd H1 t (.tup [.int n, .int d, .bl false])) := fun t ht => fin _ t _ _ t1 ht hd ln ld
  refine ⟨_, rfl, a, _, _, _, rfl, rfl, ha1, atI_nat (j := 0) rfl, _, rfl, _, _, rfl, rfl, cp11, _, _, rfl, rfl, _, rfl, ite2 (fun c => ?_) (fun c => ?_)⟩
  · exact ⟨_, rfl, a, _, _, _, rfl, rfl, ha1, atI_nat (j := 0) rfl, _, rfl, a, _, _, _, rfl, rfl, ha1, atI_nat (j := 1) rfl, small_size (show 3 ≤ 1000 by decide), asis⟩
  refine ⟨_, rfl, a, _, _, _, rfl, rfl, ha1, atI_nat (j := 1) rfl, _, rfl, _, _, rfl, rfl, cp11, _, _, rfl, rfl, _, rfl, ite2 (fun c' => ?_) (fun c' => ?_)⟩
  · exact ⟨_, rfl, a, _, _, _, rfl, rfl, ha1, atI_nat (j := 0) rfl, _, rfl, a, _, _, _, rfl, rfl, ha1, atI_nat (j := 1) rfl, small_size (show 3 ≤ 1000 by decide), asis⟩
  have b1 : -100000000000 ≤ n ∧ n ≤ 100000000000 := by
    have : ¬ (10 : Int) ^ (11 : Int).toNat < (if n < 0 then -n else n) := by simpa using c
    rw [i11] at this
    split at this <;> omega
  have b2 : -100000000000 ≤ d ∧ d ≤ 100000000000 := by
    have : ¬ (10 : Int) ^ (11 : Int).toNat < (if d < 0 then -d else d) := by simpa using c'
    rw [i11] at this
    split at this <;> omega
  have bb : ∀ {x : Int}, -100000000000 ≤ x ∧ x ≤ 100000000000 → Bd 60 x := fun {x} h => by
    unfold Bd
    omega
  have mm : ∀ {x tm : Int}, -100000000000 ≤ x ∧ x ≤ 100000000000 → (tm = 2 ∨ tm = 3 ∨ tm = 4 ∨ tm = 5 ∨ tm = 6 ∨ tm = 7 ∨ tm = 8 ∨ tm = 9 ∨ tm = -2 ∨ tm = -3 ∨ tm = -4 ∨ tm = -5 ∨ tm = -6 ∨ tm = -7 ∨ tm = -8 ∨ tm = -9) → L12 (x * tm) := fun {x tm} h ht => by
    rcases ht with e | e | e | e | e | e | e | e | e | e | e | e | e | e | e | e <;> subst e <;> exact l12 (by omega) (by omega)
  refine ⟨_, rfl, p, _, rfl, t1.2, by decide, bd64 (by decide), fun H2 v t2 v0 v1 => ⟨rfl, _, rfl, ?_⟩⟩
  have ha2 := t2.tup t1.2 ha1
  refine ite2 (fun c3 => ?_) (fun c3 => ?_)
  · refine ⟨_, rfl, _, rfl, ?_⟩
    refine ⟨_, rfl, a, _, _, _, rfl, rfl, ha2, atI_nat (j := 0) rfl, _, rfl, _, _, rfl, rfl, Bd.mulW (a := 60) (b := 60) (bb b1) (by unfold Bd; omega), _, rfl, a, _, _, _, rfl, rfl, ha2, atI_nat (j := 1) rfl, _, rfl, _, _, rfl, rfl, Bd.mulW (a := 60) (b := 60) (bb b2) (by unfold Bd; omega), small_size (show 3 ≤ 1000 by decide), fun t ht => ?_⟩
    exact fin _ t _ _ (t1.trans t2) ht (Int.mul_ne_zero hd (by omega)) (mm b1 (by omega)) (mm b2 (by omega))
  · refine ⟨_, rfl, a, _, _, _, rfl, rfl, ha2, atI_nat (j := 0) rfl, _, rfl, _, _, rfl, rfl, Bd.mulW (a := 60) (b := 60) (bb b1) (by unfold Bd; omega), _, rfl, a, _, _, _, rfl, rfl, ha2, atI_nat (j := 1) rfl, _, rfl, _, _, rfl, rfl, Bd.mulW (a := 60) (b := 60) (bb b2) (by unfold Bd; omega), small_size (show 3 ≤ 1000 by decide), fun t ht => ?_⟩
    exact fin _ t _ _ (t1.trans t2) ht (Int.mul_ne_zero hd (by omega)) (mm b1 (by omega)) (mm b2 (by omega))
end
end K0
namespace K0
open PySem PySem.Spec PyProof.Rows L2 He HX KF
section
variable {P : Program} {w : World} {K : PySem.W.Frag} {mg : Str → Option Value} {base : Heap}
def NN__law_two : List PySem.Str := ["one", "two", "frac", "other", "top", "less", "den", "apart", "told", "same"]
theorem sc__law_two : FnScope NN__law_two ["one", "two"] (defScope (top 68)) := ⟨rfl, rfl, rfl, by decide +kernel, rfl, by decide +kernel, by decide +kernel⟩
theorem ok__law_two (h : HK K mg) (ff : FF K) (c_FR : CalF P w K mg base) (c_Fracd_addd : CalM P w K mg base 5 (fC K) "__add__" ["self", "other"] (sp_Fracd_addd K)) (c_Fracd_eqd : CalM P w K mg base 1 (fC K) "__eq__" ["self", "other"] (sp_Fracd_eqd K)) (c_Fracd_muld : CalM P w K mg base 5 (fC K) "__mul__" ["self", "other"] (sp_Fracd_muld K)) (c_Fracd_subd : CalM P w K mg base 5 (fC K) "__sub__" ["self", "other"] (sp_Fracd_subd K)) (c_Frac_compare : CalM P w K mg base 2 (fC K) "compare" ["self", "other"] (sp_Frac_compare K)) (c__law_divided : Cal P w K mg base 8 "_law_divided" ["frac", "other", "one", "two"] (sp__law_divided K)) (c__law_is : Cal P w K mg base 3 "_law_is" ["told", "num", "den"] (sp__law_is K)) (c__law_made : Cal P w K mg base 5 "_law_made" ["one"] (sp__law_made K)) (c__law_still : Cal P w K mg base 4 "_law_still" ["told", "one"] (sp__law_still K)) (c__law_truth : Cal P w K mg base 1 "_law_truth" ["told", "due"] (sp__law_truth K)) (c__law_whole : CalW P w K mg base 1 "_law_whole" ["told"] (sp__law_whole K)) : Cal P w K mg base 9 "_law_two" ["one", "two"] (sp__law_two K) := by
  have F : FunD K "_law_two" "_law_two" (defArgs (top 68)) (defBody (top 68)) (defScope (top 68)) [] [] (ga K "_law_two") (fdA K (ga K "_law_two")) := h.says.funD 44
  have G : FnOk P w K mg base (L2.CX P w) (8 + 1) (ga K "_law_two") (fdA K (ga K "_law_two")) ["one", "two"] (sp__law_two K) := okX F sc__law_two (fun vs H Q E hs => by (repeat (obtain ⟨_, hs⟩ := hs)) <;> subst_vars <;> rfl) (fun cdv A outer s H vs Q E hr hs => ?_)
  · exact ⟨G, h.glo _, F.kp, F.bindsN (fun _ _ _ _ _ _ us hl => match us, hl with | [_, _], _ => rfl)⟩
  refine ⟨_, (pss_cons (ps_set (i := 2) sc__law_two.nd rfl (by first | exact Or.inl rfl | exact Or.inr rfl) (pe_fr2 c_FR hr (pa_cons (pe_ix ix_tup (pv 0) pe_int (fun _ _ => rfl)) (pa_cons (pe_ix ix_tup (pv 0) pe_int (fun _ _ => rfl)) pa_nil))))
      (pss_cons (ps_set (i := 3) sc__law_two.nd rfl (by first | exact Or.inl rfl | exact Or.inr rfl) (pe_cal c__law_made hr passL (pa_cons (pv 1) pa_nil)))
      (pss_cons (ps_set (i := 4) sc__law_two.nd rfl (by first | exact Or.inl rfl | exact Or.inr rfl) (pe_op op_mulW (pe_ix ix_tup (pv 0) pe_int (fun _ _ => rfl)) (pe_ix ix_tup (pv 1) pe_int (fun _ _ => rfl))))
      (pss_cons (ps_set (i := 5) sc__law_two.nd rfl (by first | exact Or.inl rfl | exact Or.inr rfl) (pe_op op_mulW (pe_ix ix_tup (pv 1) pe_int (fun _ _ => rfl)) (pe_ix ix_tup (pv 0) pe_int (fun _ _ => rfl))))
      (pss_cons (ps_set (i := 6) sc__law_two.nd rfl (by first | exact Or.inl rfl | exact Or.inr rfl) (pe_op op_mulW (pe_ix ix_tup (pv 0) pe_int (fun _ _ => rfl)) (pe_ix ix_tup (pv 1) pe_int (fun _ _ => rfl))))
      (pss_cons (ps_if (pt_not (pt_val (pe_cal c__law_is hr passL (pa_cons (pe_op (op_ownB ff.own c_Fracd_addd.mt.at_ c_Fracd_addd.mt.fn (ff.no _ (by decide +kernel)) (by rfl) (by rfl) c_Fracd_addd.ok (hr.mono (by decide)) c_Fracd_addd.b passL) (pv 2) (pv 3)) (pa_cons (pe_op op_add (pv 4) (pv 5)) (pa_cons (pv 6) pa_nil))))))
        (pss_one (ps_ret pe_bl))
        pss_nil)
      (pss_cons (ps_if (pt_not (pt_val (pe_cal c__law_is hr passL (pa_cons (pe_op (op_ownB ff.own c_Fracd_subd.mt.at_ c_Fracd_subd.mt.fn (ff.no _ (by decide +kernel)) (by rfl) (by rfl) c_Fracd_subd.ok (hr.mono (by decide)) c_Fracd_subd.b passL) (pv 2) (pv 3)) (pa_cons (pe_op op_sub (pv 4) (pv 5)) (pa_cons (pv 6) pa_nil))))))
        (pss_one (ps_ret pe_bl))
        pss_nil)
      (pss_cons (ps_if (pt_not (pt_val (pe_cal c__law_is hr passL (pa_cons (pe_op (op_ownB ff.own c_Fracd_muld.mt.at_ c_Fracd_muld.mt.fn (ff.no _ (by decide +kernel)) (by rfl) (by rfl) c_Fracd_muld.ok (hr.mono (by decide)) c_Fracd_muld.b passL) (pv 2) (pv 3)) (pa_cons (pe_op op_mulW (pe_ix ix_tup (pv 0) pe_int (fun _ _ => rfl)) (pe_ix ix_tup (pv 1) pe_int (fun _ _ => rfl))) (pa_cons (pv 6) pa_nil))))))
        (pss_one (ps_ret pe_bl))
        pss_nil)
      (pss_cons (ps_set (i := 7) sc__law_two.nd rfl (by first | exact Or.inl rfl | exact Or.inr rfl) (pe_op op_mulW (pe_op op_sub (pv 4) (pv 5)) (pv 6)))
      (pss_cons (ps_set (i := 8) sc__law_two.nd rfl (by first | exact Or.inl rfl | exact Or.inr rfl) (pe_calM c_Frac_compare hr passL (pv 2) (pa_cons (pv 3) pa_nil)))
      (pss_cons (ps_if (PW.pt (pw_or (pt_not (pt_val (pe_cal c__law_whole.cal hr passL (pa_cons (pv 8) pa_nil)))) (pw_or1 (pt_cmpR op_ne (pv 8) (pe_op op_sub (pe_callTy call_int1 (by rfl) (h.free "int") (by decide +kernel) (pa_cons (pe_cmpR op_gt (pv 7) pe_int (nomark _)) pa_nil)) (pe_callTy call_int1 (by rfl) (h.free "int") (by decide +kernel) (pa_cons (pe_cmpR op_lt (pv 7) pe_int (nomark _)) pa_nil))) (nomark _)))))
        (pss_one (ps_ret pe_bl))
        pss_nil)
      (pss_cons (ps_set (i := 9) sc__law_two.nd rfl (by first | exact Or.inl rfl | exact Or.inr rfl) (pe_and (pe_cmpR op_eq (pv 7) pe_int (nomark _)) (pe_one (pe_not (pe_ix ix_tup (pv 1) pe_int (fun _ _ => rfl))))))
      (pss_cons (ps_if (pt_not (pt_val (pe_cal c__law_truth hr passL (pa_cons (pe_cmpR (op_ownEq ff.own c_Fracd_eqd.mt.at_ c_Fracd_eqd.mt.fn c_Fracd_eqd.ok (hr.mono (by decide)) c_Fracd_eqd.b passL) (pv 2) (pv 3) (nomark _)) (pa_cons (pv 9) pa_nil)))))
        (pss_one (ps_ret pe_bl))
        pss_nil)
      (pss_cons (ps_if (pt_not (pt_val (pe_cal c__law_truth hr passL (pa_cons (pe_cmpR (op_ownNe ff.own c_Fracd_eqd.mt.at_ c_Fracd_eqd.mt.fn c_Fracd_eqd.ok (hr.mono (by decide)) c_Fracd_eqd.b passL) (pv 2) (pv 3) (nomark _)) (pa_cons (pe_not (pv 9)) pa_nil)))))
        (pss_one (ps_ret pe_bl))
        pss_nil)
      (pss_cons (ps_if (pt_not (pt_val (pe_cal c__law_divided hr passL (pa_cons (pv 2) (pa_cons (pv 3) (pa_cons (pv 0) (pa_cons (pv 1) pa_nil)))))))
        (pss_one (ps_ret pe_bl))
        pss_nil)
      (pss_one (ps_ret (pe_and (pe_cal c__law_is hr passL (pa_cons (pv 2) (pa_cons (pe_ix ix_tup (pv 0) pe_int (fun _ _ => rfl)) (pa_cons (pe_ix ix_tup (pv 0) pe_int (fun _ _ => rfl)) pa_nil)))) (pe_one (pe_cal c__law_still hr passL (pa_cons (pv 3) (pa_cons (pv 1) pa_nil)))))))))))))))))))))), ?_⟩
  obtain ⟨a, b, n, d, m, e, fl, fm, rfl, h1, h2, hq⟩ := hs
  obtain ⟨ha, hd, ln, ld, hfl⟩ := id h1
  obtain ⟨hb, he, lm, le, hfm⟩ := id h2
  have ff := h.ff
  have rt := rtLow hd ln ld
  have rt2 := rtLow he lm le
  have pd := rt.1
  have pe := rt2.1
  have bn := bd40 ln
  have bdd := bd40 ld
  have bm := bd40 lm
  have be := bd40 le
  have de : d * e ≠ 0 := Int.mul_ne_zero hd he
  have bde : Bd 1000 (d * e) := (Bd.mul bdd be).mono (by decide)
  have c1 := low_cross n d
  have c2 := low_cross m e
  refine ⟨_, rfl, a, _, _, _, rfl, rfl, ha, atI_nat (j := 0) rfl, _, rfl, a, _, _, _, rfl, rfl, ha, atI_nat (j := 1) rfl, n, d, rfl, hd, b1000 ld, fun H1 f s1 nf fF => ?_⟩
  refine ⟨_, rfl, b, m, e, fm, rfl, h2.same s1, fun H2 y s2 hM => ?_⟩
  have S0 := s1.trans s2
  obtain ⟨dx, hF⟩ := fF.same s2
  have Y := hM.num hfm
  have ha2 := S0.tup ha
  have hb2 := S0.tup hb
  have h12 := h1.same S0
  have h22 := h2.same S0
  have opnd : ∀ {H'}, Same H2 H' → Opnd (fC K) y H' := fun {H'} S => by
    rcases Y with ⟨e1, _⟩ | ⟨q, e1, dy, hy⟩
    · exact .inl ⟨_, e1⟩
    · exact .inr ⟨q, dy, _, e1, S _ _ hy⟩
  have opndE : ∀ {H'}, Same H2 H' → OpndE (fC K) y H' := fun {H'} S => by
    rcases Y with ⟨e1, _⟩ | ⟨q, e1, dy, hy⟩
    · exact .inl ⟨_, e1⟩
    · exact .inr (.inr ⟨q, dy, _, e1, S _ _ hy⟩)
  refine ⟨_, rfl, a, _, _, _, rfl, rfl, ha2, atI_nat (j := 0) rfl, _, rfl, b, _, _, _, rfl, rfl, hb2, atI_nat (j := 1) rfl, _, _, rfl, rfl, Bd.mulW bn be, ?_⟩
  refine ⟨_, rfl, b, _, _, _, rfl, rfl, hb2, atI_nat (j := 0) rfl, _, rfl, a, _, _, _, rfl, rfl, ha2, atI_nat (j := 1) rfl, _, _, rfl, rfl, Bd.mulW bm bdd, ?_⟩
  refine ⟨_, rfl, a, _, _, _, rfl, rfl, ha2, atI_nat (j := 1) rfl, _, rfl, b, _, _, _, rfl, rfl, hb2, atI_nat (j := 1) rfl, _, _, rfl, rfl, Bd.mulW bdd be, ?_⟩
  -- +
  refine ⟨_, rfl, _, rfl, f, dx, _, rfl, hF, opnd (Same.refl _), f, y, _, _, _, _, rfl, ⟨dx, hF⟩, Y, rt, rt2, fun H3 q3 s3 f3 => ⟨_, rfl, _, rfl, _, _, rfl, rfl, _, rfl, q3, _, _, rfl, de, bde, ?_, fun H4 s4 => ⟨_, rfl, iteF ?_⟩⟩⟩
  · have z := low_eq (a := lowN n d * lowD m e + lowN m e * lowD n d) (b := lowD n d * lowD m e) (a' := n * e + m * d) (b' := d * e) (Int.mul_ne_zero (by omega) (by omega)) de (by
      calc (lowN n d * lowD m e + lowN m e * lowD n d) * (d * e) = (lowN n d * d) * (lowD m e * e) + (lowN m e * e) * (lowD n d * d) := by rw [Int.add_mul]; simp only [Int.mul_assoc, Int.mul_comm, Int.mul_left_comm]
        _ = (n * lowD n d) * (lowD m e * e) + (m * lowD m e) * (lowD n d * d) := by rw [c1, c2]
        _ = (n * e + m * d) * (lowD n d * lowD m e) := by rw [Int.add_mul]; simp only [Int.mul_assoc, Int.mul_comm, Int.mul_left_comm])
    dsimp only at f3
    rw [z.1, z.2] at f3
    exact f3
  have S4 := s3.trans s4
  -- -
  refine ⟨_, rfl, _, rfl, f, dx, _, rfl, S4 _ _ hF, opnd S4, f, y, _, _, _, _, rfl, ⟨dx, S4 _ _ hF⟩, Y.same S4, rt, rt2, fun H5 q5 s5 f5 => ⟨_, rfl, _, rfl, _, _, rfl, rfl, _, rfl, q5, _, _, rfl, de, bde, ?_, fun H6 s6 => ⟨_, rfl, iteF ?_⟩⟩⟩
  · have z := low_eq (a := lowN n d * lowD m e - lowN m e * lowD n d) (b := lowD n d * lowD m e) (a' := n * e - m * d) (b' := d * e) (Int.mul_ne_zero (by omega) (by omega)) de (by
      calc (lowN n d * lowD m e - lowN m e * lowD n d) * (d * e) = (lowN n d * d) * (lowD m e * e) - (lowN m e * e) * (lowD n d * d) := by rw [Int.sub_mul]; simp only [Int.mul_assoc, Int.mul_comm, Int.mul_left_comm]
        _ = (n * lowD n d) * (lowD m e * e) - (m * lowD m e) * (lowD n d * d) := by rw [c1, c2]
        _ = (n * e - m * d) * (lowD n d * lowD m e) := by rw [Int.sub_mul]; simp only [Int.mul_assoc, Int.mul_comm, Int.mul_left_comm])
    dsimp only at f5
    rw [z.1, z.2] at f5
    exact f5
  have S6 := (S4.trans s5).trans s6
  -- *
  refine ⟨_, rfl, _, rfl, f, dx, _, rfl, S6 _ _ hF, opnd S6, f, y, _, _, _, _, rfl, ⟨dx, S6 _ _ hF⟩, Y.same S6, rt, rt2, fun H7 q7 s7 f7 => ?_⟩
  have S7 := S6.trans s7
  refine ⟨_, rfl, a, _, _, _, rfl, rfl, S7.tup ha2, atI_nat (j := 0) rfl, _, rfl, b, _, _, _, rfl, rfl, S7.tup hb2, atI_nat (j := 0) rfl, _, _, rfl, rfl, Bd.mulW bn bm, _, rfl, q7, _, _, rfl, de, bde, ?_, fun H8 s8 => ⟨_, rfl, iteF ?_⟩⟩
  · have z := low_eq (a := lowN n d * lowN m e) (b := lowD n d * lowD m e) (a' := n * m) (b' := d * e) (Int.mul_ne_zero (by omega) (by omega)) de (by
      calc lowN n d * lowN m e * (d * e) = (lowN n d * d) * (lowN m e * e) := by simp only [Int.mul_assoc, Int.mul_comm, Int.mul_left_comm]
        _ = (n * lowD n d) * (m * lowD m e) := by rw [c1, c2]
        _ = n * m * (lowD n d * lowD m e) := by simp only [Int.mul_assoc, Int.mul_comm, Int.mul_left_comm])
    dsimp only at f7
    rw [z.1, z.2] at f7
    exact f7
  have S8 := S7.trans s8
  -- the order
  have sgn : (lowN n d * lowD m e < lowN m e * lowD n d ↔ (n * e - m * d) * (d * e) < 0) ∧ (lowN m e * lowD n d < lowN n d * lowD m e ↔ 0 < (n * e - m * d) * (d * e)) := by
    have E : (lowN n d * lowD m e - lowN m e * lowD n d) * (d * e * (d * e)) = ((n * e - m * d) * (d * e)) * (lowD n d * lowD m e) := by
      calc (lowN n d * lowD m e - lowN m e * lowD n d) * (d * e * (d * e)) = ((lowN n d * d) * (lowD m e * e) - (lowN m e * e) * (lowD n d * d)) * (d * e) := by rw [Int.sub_mul, Int.sub_mul]; simp only [Int.mul_assoc, Int.mul_comm, Int.mul_left_comm]
        _ = ((n * lowD n d) * (lowD m e * e) - (m * lowD m e) * (lowD n d * d)) * (d * e) := by rw [c1, c2]
        _ = ((n * e - m * d) * (d * e)) * (lowD n d * lowD m e) := by rw [Int.sub_mul, Int.sub_mul, Int.sub_mul]; simp only [Int.mul_assoc, Int.mul_comm, Int.mul_left_comm]
    have p1 : 0 < d * e * (d * e) := by
      rcases Int.lt_trichotomy (d * e) 0 with q | q | q
      · exact Int.mul_pos_of_neg_of_neg q q
      · exact absurd q de
      · exact Int.mul_pos q q
    have p2 : 0 < lowD n d * lowD m e := Int.mul_pos pd pe
    generalize (n * e - m * d) * (d * e) = w at *
    generalize lowN n d * lowD m e = u at *
    generalize lowN m e * lowD n d = v at *
    generalize d * e * (d * e) = r at *
    generalize lowD n d * lowD m e = t at *
    exact sgn_of E p1 p2
  refine ⟨_, rfl, _, rfl, _, _, rfl, rfl, _, rfl, _, _, rfl, rfl, Bd.mulW (Bd.sub (Bd.mul bn be) (Bd.mono (Bd.mul bm bdd) (by decide))) (Bd.mul bdd be), ?_⟩
  refine ⟨_, rfl, f, dx, _, rfl, S8 _ _ hF, rfl, _, rfl, f, y, _, _, _, _, rfl, ⟨dx, S8 _ _ hF⟩, Y.same S8, rt, rt2, fun H9 s9 => ?_⟩
  have S9 := S8.trans s9
  refine ⟨_, rfl, _, rfl, _, rfl, iteF ?_⟩
  have cmp : (if lowN n d * lowD m e < lowN m e * lowD n d then (-1 : Int) else if lowN m e * lowD n d < lowN n d * lowD m e then 1 else 0) = (if decide (0 < (n * e - m * d) * (d * e)) = true then 1 else 0) - (if decide ((n * e - m * d) * (d * e) < 0) = true then 1 else 0) := by
    generalize (n * e - m * d) * (d * e) = w at *
    by_cases q1 : w < 0
    · rw [if_pos (sgn.1.mpr q1), if_neg (by simp; omega), if_pos (by simpa using q1)]
      rfl
    · rw [if_neg (fun z => q1 (sgn.1.mp z))]
      by_cases q2 : 0 < w
      · rw [if_pos (sgn.2.mpr q2), if_pos (by simpa using q2), if_neg (by simpa using q1)]
        rfl
      · rw [if_neg (fun z => q2 (sgn.2.mp z)), if_neg (by simpa using q2), if_neg (by simpa using q1)]
        rfl
  refine ⟨_, rfl, _, rfl, _, _, rfl, rfl, .inr ⟨_, rfl, _, rfl, _, _, rfl, rfl, .inr ⟨_, rfl, _, _, rfl, rfl, rfl, _, rfl, ?_⟩⟩⟩
  rw [cmp]
  refine iteNS rfl ?_
  -- the same
  have seq : decide (lowN n d = lowN m e ∧ lowD n d = lowD m e) = decide ((n * e - m * d) * (d * e) = 0) := by
    refine decide_eq_decide.mpr ⟨fun ⟨q1, q2⟩ => ?_, fun q => ?_⟩
    · have : n * e = m * d := by
        rw [q1, q2] at c1
        have k : (n * e) * lowD m e = (m * d) * lowD m e := by
          calc (n * e) * lowD m e = (n * lowD m e) * e := by simp only [Int.mul_assoc, Int.mul_comm, Int.mul_left_comm]
            _ = (lowN m e * d) * e := by rw [c1]
            _ = (lowN m e * e) * d := by simp only [Int.mul_assoc, Int.mul_comm, Int.mul_left_comm]
            _ = (m * lowD m e) * d := by rw [c2]
            _ = (m * d) * lowD m e := by simp only [Int.mul_assoc, Int.mul_comm, Int.mul_left_comm]
        exact Int.eq_of_mul_eq_mul_right (by omega) k
      rw [this, Int.sub_self, Int.zero_mul]
    · rcases Int.mul_eq_zero.mp q with q | q
      · exact low_eq hd he (by omega)
      · exact absurd q de
  have same : ∃ sm : Bool, sm = (decide ((n * e - m * d) * (d * e) = 0) && !fm) ∧ EqB K H2 (lowN n d) (lowD n d) y sm := by
    refine ⟨_, rfl, ?_⟩
    cases fm with
    | true => exact .inl ⟨m, hM.1 rfl, by simp⟩
    | false =>
      obtain ⟨q, e1, f1⟩ := hM.2 rfl
      exact .inr (.inr ⟨q, _, _, e1, f1, by rw [seq]; simp⟩)
  obtain ⟨sm, esm, hE⟩ := same
  have hE' : ∀ {H'}, Same H2 H' → EqB K H' (lowN n d) (lowD n d) y sm := fun {H'} S => by
    rcases hE with q | q | ⟨q, q1, q2, e1, f1, r⟩
    · exact .inl q
    · exact .inr (.inl q)
    · exact .inr (.inr ⟨q, q1, q2, e1, f1.same S, r⟩)
  refine ⟨_, rfl, rfl, _, rfl, ite2 (fun c => ?_) (fun c => ?_)⟩
  · have c0 : (n * e - m * d) * (d * e) = 0 := by simpa using c
    have e1 : sm = !fm := by
      rw [esm, decide_eq_true c0, Bool.true_and]
    subst e1
    refine ⟨_, rfl, b, _, _, _, rfl, rfl, S9.tup hb2, atI_nat (j := 2) rfl, fm, rfl, ?_⟩
    refine ⟨_, rfl, _, rfl, f, dx, _, rfl, S9 _ _ hF, opndE S9, f, _, _, y, _, rfl, ⟨dx, S9 _ _ hF⟩, hE' S9, _, rfl, _, _, rfl, _, rfl, iteNS rfl ?_⟩
    refine ⟨_, rfl, _, rfl, f, dx, _, rfl, S9 _ _ hF, opndE S9, f, _, _, y, _, rfl, ⟨dx, S9 _ _ hF⟩, hE' S9, _, rfl, _, rfl, _, rfl, _, _, rfl, _, rfl, iteNS rfl ?_⟩
    refine ⟨_, rfl, _, rfl, _, rfl, _, rfl, f, y, a, b, n, d, m, e, fl, fm, rfl, h12.same S9, h22.same S9, ⟨dx, S9 _ _ hF⟩, hM.same S9, fun H10 s10 => ⟨_, rfl, iteF ?_⟩⟩
    have S10 := S9.trans s10
    exact ⟨_, rfl, _, rfl, a, _, _, _, rfl, rfl, S10.tup ha2, atI_nat (j := 0) rfl, _, rfl, a, _, _, _, rfl, rfl, S10.tup ha2, atI_nat (j := 1) rfl, f, n, d, rfl, hd, b1000 ld, ⟨dx, S10 _ _ hF⟩, fun H11 s11 => ⟨_, rfl, iteT ⟨_, rfl, _, rfl, y, b, m, e, fm, rfl, h22.same (S10.trans s11), hM.same (S10.trans s11), fun H12 s12 => hq _ (S0.trans ((S10.trans s11).trans s12))⟩⟩⟩
  · have c0 : ¬ (n * e - m * d) * (d * e) = 0 := by simpa using c
    have e1 : sm = false := by
      rw [esm, decide_eq_false c0, Bool.false_and]
    subst e1
    refine ⟨_, rfl, _, rfl, f, dx, _, rfl, S9 _ _ hF, opndE S9, f, _, _, y, _, rfl, ⟨dx, S9 _ _ hF⟩, hE' S9, _, rfl, _, _, rfl, _, rfl, iteNS rfl ?_⟩
    refine ⟨_, rfl, _, rfl, f, dx, _, rfl, S9 _ _ hF, opndE S9, f, _, _, y, _, rfl, ⟨dx, S9 _ _ hF⟩, hE' S9, _, rfl, _, rfl, _, rfl, _, _, rfl, _, rfl, iteNS rfl ?_⟩
    refine ⟨_, rfl, _, rfl, _, rfl, _, rfl, f, y, a, b, n, d, m, e, fl, fm, rfl, h12.same S9, h22.same S9, ⟨dx, S9 _ _ hF⟩, hM.same S9, fun H10 s10 => ⟨_, rfl, iteF ?_⟩⟩
    have S10 := S9.trans s10
    exact ⟨_, rfl, _, rfl, a, _, _, _, rfl, rfl, S10.tup ha2, atI_nat (j := 0) rfl, _, rfl, a, _, _, _, rfl, rfl, S10.tup ha2, atI_nat (j := 1) rfl, f, n, d, rfl, hd, b1000 ld, ⟨dx, S10 _ _ hF⟩, fun H11 s11 => ⟨_, rfl, iteT ⟨_, rfl, _, rfl, y, b, m, e, fm, rfl, h22.same (S10.trans s11), hM.same (S10.trans s11), fun H12 s12 => hq _ (S0.trans ((S10.trans s11).trans s12))⟩⟩⟩
end
end K0
namespace K0
open PySem PySem.Spec PyProof.Rows L2 He HX KF
section
variable {P : Program} {w : World} {K : PySem.W.Frag} {mg : Str → Option Value} {base : Heap}
def NN__law_whole : List PySem.Str := ["told"]
theorem sc__law_whole : FnScope NN__law_whole ["told"] (defScope (top 53)) := ⟨rfl, rfl, rfl, by decide +kernel, rfl, by decide +kernel, by decide +kernel⟩
theorem ok__law_whole (h : HK K mg) : CalW P w K mg base 1 "_law_whole" ["told"] (sp__law_whole K) := by
  have F : FunD K "_law_whole" "_law_whole" (defArgs (top 53)) (defBody (top 53)) (defScope (top 53)) [] [] (ga K "_law_whole") (fdA K (ga K "_law_whole")) := h.says.funD 29
  have G : FnW P w K mg base (L2.CX P w) (0 + 1) (ga K "_law_whole") (fdA K (ga K "_law_whole")) ["told"] (sp__law_whole K) := okW F sc__law_whole (fun vs H Q E hs => by (repeat (obtain ⟨_, hs⟩ := hs)) <;> subst_vars <;> rfl) (fun cdv A outer s H vs Q E hw hs => ?_)
  · exact ⟨G, h.glo _, F.kp, F.bindsN (fun _ _ _ _ _ _ us hl => match us, hl with | [_], _ => rfl)⟩
  refine ⟨_, (pss_one (ps_ret (pe_and (pe_callB call_isi (by rfl) (h.free "isinstance") (by decide +kernel) (pa_cons (pv 0) (pa_cons (pe_bltn (v := .ty "int") (by rfl) (h.free "int") (by decide +kernel) rfl) pa_nil))) (pe_one (pe_not (pe_callB call_isi (by rfl) (h.free "isinstance") (by decide +kernel) (pa_cons (pv 0) (pa_cons (pe_bltn (v := .ty "bool") (by rfl) (h.free "bool") (by decide +kernel) rfl) pa_nil)))))))), ?_⟩
  obtain ⟨i, rfl, hq⟩ := hs
  exact ⟨_, rfl, _, _, _, _, _, rfl, .ty _, .base (.int _), kit_ty (r := true) (by decide +kernel), _, rfl, iteT ⟨_, rfl, _, _, _, _, _, rfl, .ty _, .base (.int _), kit_ty (r := false) (by decide +kernel), _, rfl, hq⟩⟩
end
end K0
namespace K0
open PySem PySem.Spec PyProof.Rows L2 He HX KF
section
variable {P : Program} {w : World} {K : PySem.W.Frag} {mg : Str → Option Value} {base : Heap}
def NN_common_divisor : List PySem.Str := ["first", "second", "one", "two", "rest"]
theorem sc_common_divisor : FnScope NN_common_divisor ["first", "second"] (defScope (top 42)) := ⟨rfl, rfl, rfl, by decide +kernel, rfl, by decide +kernel, by decide +kernel⟩
theorem ok_common_divisor (h : HK K mg) : Cal P w K mg base 1 "common_divisor" ["first", "second"] (sp_common_divisor K) := by
  have F : FunD K "common_divisor" "common_divisor" (defArgs (top 42)) (defBody (top 42)) (defScope (top 42)) [] [] (ga K "common_divisor") (fdA K (ga K "common_divisor")) := h.says.funD 19
  have G : FnOk P w K mg base (L2.CX P w) (0 + 1) (ga K "common_divisor") (fdA K (ga K "common_divisor")) ["first", "second"] (sp_common_divisor K) := okX F sc_common_divisor (fun vs H Q E hs => by (repeat (obtain ⟨_, hs⟩ := hs)) <;> subst_vars <;> rfl) (fun cdv A outer s H vs Q E hr hs => ?_)
  · exact ⟨G, h.glo _, F.kp, F.bindsN (fun _ _ _ _ _ _ us hl => match us, hl with | [_, _], _ => rfl)⟩
  refine ⟨_, (pss_cons (ps_set (i := 2) sc_common_divisor.nd rfl (by first | exact Or.inl rfl | exact Or.inr rfl) (pe_callB call_abs (by rfl) (h.free "abs") (by decide +kernel) (pa_cons (pv 0) pa_nil)))
      (pss_cons (ps_set (i := 3) sc_common_divisor.nd rfl (by first | exact Or.inl rfl | exact Or.inr rfl) (pe_callB call_abs (by rfl) (h.free "abs") (by decide +kernel) (pa_cons (pv 1) pa_nil)))
      (pss_cons (ps_while (passes_of rfl) (pt_truth (pv 3) (by intro _; rfl))
        (pss_cons (ps_set (i := 4) sc_common_divisor.nd rfl (by first | exact Or.inl rfl | exact Or.inr rfl) (pe_op op_modN (pv 2) (pv 3)))
        (pss_cons (ps_set (i := 2) sc_common_divisor.nd rfl (by first | exact Or.inl rfl | exact Or.inr rfl) (pv 3))
        (pss_one (ps_set (i := 3) sc_common_divisor.nd rfl (by first | exact Or.inl rfl | exact Or.inr rfl) (pv 4))))))
      (pss_one (ps_ret (pv 2)))))), ?_⟩
  obtain ⟨a, b, rfl, hq⟩ := hs
  refine ⟨_, rfl, _, rfl, _, rfl, _, rfl, ?_⟩
  dsimp only [gName, tSeq]
  refine while_by (fun σ H' => H' = H ∧ ∃ (x y : Int) (r : Option V), σ = [some (.int a), some (.int b), some (.int x), some (.int y), r] ∧ 0 ≤ x ∧ 0 ≤ y ∧ gi x y = gi a b)
    (fun σ _ => match σ with | [_, _, _, some (.int y), _] => y.toNat | _ => 0) ?_ ?_ (fun σ H Q Q' i ⟨v, e, k, t, q⟩ => ⟨v, e, k, t, i _ _ q⟩)
  · exact ⟨rfl, _, _, _, rfl, by split <;> omega, by split <;> omega, gi_abs a b⟩
  rintro σ H' ⟨rfl, x, y, r, rfl, hx, hy, hg⟩
  refine ⟨_, rfl, _, rfl, ?_⟩
  by_cases h0 : y = 0
  · subst h0
    refine iteF ⟨_, rfl, ?_⟩
    rw [gi_zero hx] at hg
    rw [hg]
    exact hq
  · have hy' : 0 < y := by omega
    rw [show (y != 0) = true by simpa using h0]
    refine iteT ⟨_, rfl, _, rfl, _, _, rfl, rfl, h0, _, rfl, _, rfl, ?_⟩
    have := fmod_rng (x := x) hy'
    exact ⟨⟨rfl, _, _, _, rfl, by omega, this.1, (gi_step hx hy').trans hg⟩, by
      show (x.fmod y).toNat < y.toNat
      omega⟩
end
end K0
namespace K0
open PySem PySem.Spec PyProof.Rows L2 He HX KF
section
variable {P : Program} {w : World} {K : PySem.W.Frag} {mg : Str → Option Value} {base : Heap}
def NN_digits_end : List PySem.Str := ["text", "start", "end"]
theorem sc_digits_end : FnScope NN_digits_end ["text", "start"] (defScope (top 46)) := ⟨rfl, rfl, rfl, by decide +kernel, rfl, by decide +kernel, by decide +kernel⟩
theorem ok_digits_end (h : HK K mg) (x_BadText : CalX P w K mg base 1 "BadText" ps_X_BadText (sp_X_BadText K)) : Cal P w K mg base 3 "digits_end" ["text", "start"] (sp_digits_end K) := by
  have F : FunD K "digits_end" "digits_end" (defArgs (top 46)) (defBody (top 46)) (defScope (top 46)) [] [] (ga K "digits_end") (fdA K (ga K "digits_end")) := h.says.funD 23
  obtain ⟨_, g_MOST_DIGITS⟩ := h.most
  obtain ⟨_, g_FIRST_DIGITS⟩ := h.first
  obtain ⟨_, g_DIGITS⟩ := h.digits
  have G : FnOk P w K mg base (L2.CX P w) (2 + 1) (ga K "digits_end") (fdA K (ga K "digits_end")) ["text", "start"] (sp_digits_end K) := okX F sc_digits_end (fun vs H Q E hs => by (repeat (obtain ⟨_, hs⟩ := hs)) <;> subst_vars <;> rfl) (fun cdv A outer s H vs Q E hr hs => ?_)
  · exact ⟨G, h.glo _, F.kp, F.bindsN (fun _ _ _ _ _ _ us hl => match us, hl with | [_, _], _ => rfl)⟩
  refine ⟨_, (pss_cons (ps_if (PW.pt (pw_or (pt_cmpR op_ge (pv 1) (pe_callB call_len_str (by rfl) (h.free "len") (by decide +kernel) (pa_cons (pv 0) pa_nil)) (nomark _)) (pw_or1 (pt_cmpR op_notIn_sign (pe_ix ix_str (pv 0) (pv 1) (fun _ _ => rfl)) (pe_glob (v := .str "123456789") (by rfl) g_FIRST_DIGITS ⟨_, rfl⟩) (by rfl)))))
        (pss_one (ps_raise (by rfl) (takes_of rfl rfl rfl rfl) (pmk_cal x_BadText hr (pa_cons (pv 1) pa_nil))))
        pss_nil)
      (pss_cons (ps_set (i := 2) sc_digits_end.nd rfl (by first | exact Or.inl rfl | exact Or.inr rfl) (pe_op op_add (pv 1) pe_int))
      (pss_cons (ps_while (passes_of rfl) (PW.pt (pw_and (pt_cmpR op_lt (pv 2) (pe_callB call_len_str (by rfl) (h.free "len") (by decide +kernel) (pa_cons (pv 0) pa_nil)) (nomark _)) (pw_and (pt_cmpR op_lt (pv 2) (pe_op op_add (pv 1) (pe_glob (v := .int 12) (by rfl) g_MOST_DIGITS ⟨_, rfl⟩)) (nomark _)) (pw_and1 (pt_cmpR op_in_sign (pe_ix ix_str (pv 0) (pv 2) (fun _ _ => rfl)) (pe_glob (v := .str "0123456789") (by rfl) g_DIGITS ⟨_, rfl⟩) (by rfl))))))
        (pss_one (ps_set (i := 2) sc_digits_end.nd rfl (by first | exact Or.inl rfl | exact Or.inr rfl) (pe_op op_add (pv 2) pe_int))))
      (pss_one (ps_ret (pv 2)))))), ?_⟩
  obtain ⟨z, s, rfl, hz, h1, h2⟩ := hs
  have hl := chs_len z
  have bad : ∀ (H' : Hp) (a dx : Addr), dEnd (chs z) s = none → H a = none → But a (upd H a (exo a (ga K "BadText") none)) H' → dx ≠ a → H' dx = some (exd dx [("at", .int (s : Nat))]) → E (.ref (ga K "BadText")) (some dx) (del H' a) := fun H' a dx hn na but ne hd => by
    refine h2 hn _ dx (fun b o q => ?_) (.inr ?_)
    · rw [del_ne (ne_of_none q na)]
      exact same_but na but b o q
    · rw [del_ne ne]
      exact hd
  refine ⟨_, rfl, _, rfl, _, rfl, small_size hz, _, _, rfl, rfl, _, rfl, ite2 (fun c => ?_) (fun c => ?_)⟩
  · have c1 : z.length ≤ s := by
      have : (z.length : Int) ≤ s := by simpa using c
      omega
    have hn : dEnd (chs z) s = none := by
      unfold dEnd
      rw [List.drop_eq_nil_iff.mpr (by omega)]
    refine ⟨_, rfl, (show 1 ≤ 1000 by decide), fun a na => ⟨a, _, rfl, upd_same, fun H2 dx but ha nd ne hd => ⟨rfl, some dx, ha, bad H2 a dx hn na but ne hd⟩⟩⟩
  have c1 : s < z.length := by
    have : ¬ (z.length : Int) ≤ s := by simpa using c
    omega
  obtain ⟨c0, r0, hd0⟩ : ∃ c r, (chs z).drop s = c :: r := by
    cases q : (chs z).drop s with
    | nil =>
      have := List.drop_eq_nil_iff.mp q
      omega
    | cons c r => exact ⟨c, r, rfl⟩
  have g0 := get_drop hd0
  refine ⟨_, rfl, _, rfl, _, _, c0, rfl, rfl, small_size hz, atI_nat g0, c0, _, rfl, rfl, _, rfl, ?_⟩
  rw [in_first]
  cases hf : isF c0 with
  | false =>
    have hn : dEnd (chs z) s = none := by
      unfold dEnd
      rw [hd0]
      show (if isF c0 = true then _ else _) = _
      rw [hf]
      rfl
    exact ⟨_, rfl, (show 1 ≤ 1000 by decide), fun a na => ⟨a, _, rfl, upd_same, fun H2 dx but ha nd ne hd => ⟨rfl, some dx, ha, bad H2 a dx hn na but ne hd⟩⟩⟩
  | true =>
  have dE : dEnd (chs z) s = some (s + 1 + runD 11 r0) := by
    unfold dEnd
    rw [hd0]
    show (if isF c0 = true then _ else _) = _
    rw [hf]
    rfl
  have hd1 : (chs z).drop (s + 1) = r0 := by
    rw [← List.drop_drop, hd0]
    rfl
  have hq := h1 _ dE
  refine ⟨_, rfl, _, _, rfl, rfl, ?_⟩
  dsimp only [gName, tSeq]
  refine while_by (fun σ H' => H' = H ∧ ∃ e : Nat, σ = [some (.str z), some (.int (s : Nat)), some (.int (e : Nat))] ∧ s + 1 ≤ e ∧ e ≤ s + 12 ∧ e + runD (s + 12 - e) ((chs z).drop e) = s + 1 + runD 11 r0)
    (fun σ _ => match σ with | [_, _, some (.int e)] => (s + 12 - e.toNat) | _ => 0) ?_ ?_ ?_
  · refine ⟨rfl, s + 1, rfl, by omega, by omega, ?_⟩
    rw [hd1, show s + 12 - (s + 1) = 11 by omega]
  · rintro σ H' ⟨rfl, e, rfl, e1, e2, e3⟩
    have stop : runD (s + 12 - e) ((chs z).drop e) = 0 → Q (.int (e : Nat)) H' := fun h0 => by
      rw [h0, Nat.add_zero] at e3
      rw [e3]
      exact hq
    refine ⟨_, rfl, _, rfl, _, rfl, small_size hz, _, _, rfl, rfl, _, rfl, ite2 (fun c => ?_) (fun c => ?_)⟩
    · have k1 : e < z.length := by
        have : (e : Int) < z.length := by simpa using c
        omega
      refine ⟨_, rfl, _, rfl, _, _, rfl, rfl, _, _, rfl, rfl, _, rfl, ite2 (fun c => ?_) (fun c => ?_)⟩
      · have k2 : e < s + 12 := by
          have : (e : Int) < s + 12 := by simpa using c
          omega
        obtain ⟨x, r, hx⟩ : ∃ c r, (chs z).drop e = c :: r := by
          cases q : (chs z).drop e with
          | nil =>
            have := List.drop_eq_nil_iff.mp q
            omega
          | cons c r => exact ⟨c, r, rfl⟩
        have kk : s + 12 - e = (s + 12 - (e + 1)) + 1 := by omega
        have rr : runD (s + 12 - e) ((chs z).drop e) = if isD x = true then runD (s + 12 - (e + 1)) r + 1 else 0 := by
          rw [kk, hx]
          rfl
        refine ⟨_, rfl, _, rfl, _, _, x, rfl, rfl, small_size hz, atI_nat (get_drop hx), x, _, rfl, rfl, _, rfl, ?_⟩
        rw [in_digits]
        cases hD : isD x with
        | true =>
          rw [hD] at rr
          refine iteT ⟨_, rfl, _, _, rfl, rfl, ⟨rfl, e + 1, rfl, by omega, by omega, ?_⟩, ?_⟩
          · rw [← List.drop_drop, hx]
            show e + 1 + runD (s + 12 - (e + 1)) r = _
            rw [← e3, rr]
            rw [if_pos rfl]
            omega
          · show s + 12 - ((e : Int) + 1).toNat < s + 12 - (e : Int).toNat
            omega
        | false =>
          rw [hD] at rr
          exact iteF ⟨_, rfl, stop rr⟩
      · have k2 : ¬ e < s + 12 := by
          have : ¬ (e : Int) < s + 12 := by simpa using c
          omega
        refine ⟨_, rfl, stop ?_⟩
        rw [show s + 12 - e = 0 by omega]
        rfl
    · have k1 : ¬ e < z.length := by
        have : ¬ (e : Int) < z.length := by simpa using c
        omega
      refine ⟨_, rfl, stop ?_⟩
      rw [List.drop_eq_nil_iff.mpr (by omega), runD_nil]
  · refine mono_and (fun σ H Q Q' i ⟨v, e, w, e2, z, e3, e4, i1, j1, e5, e6, k, e7, q⟩ => ⟨v, e, w, e2, z, e3, e4, i1, j1, e5, e6, k, e7, i _ _ q⟩) (mono_and (fun σ H Q Q' i ⟨v, e, w, e2, i1, j1, e5, e6, i2, j2, e7, e8, k, e9, q⟩ => ⟨v, e, w, e2, i1, j1, e5, e6, i2, j2, e7, e8, k, e9, i _ _ q⟩)
      (fun σ H Q Q' i ⟨v, e, w, e2, z, i1, c, e3, e4, e5, e6, c2, z2, e7, e8, k, e9, q⟩ => ⟨v, e, w, e2, z, i1, c, e3, e4, e5, e6, c2, z2, e7, e8, k, e9, i _ _ q⟩))
end
end K0
namespace K0
open PySem PySem.Spec PyProof.Rows L2 He HX KF
section
variable {P : Program} {w : World} {K : PySem.W.Frag} {mg : Str → Option Value} {base : Heap}
def NN_digits_of : List PySem.Str := ["number", "rest", "pieces"]
theorem sc_digits_of : FnScope NN_digits_of ["number"] (defScope (top 45)) := ⟨rfl, rfl, rfl, by decide +kernel, rfl, by decide +kernel, by decide +kernel⟩
theorem ok_digits_of (h : HK K mg) : Cal P w K mg base 1 "digits_of" ["number"] (sp_digits_of K) := by
  have F : FunD K "digits_of" "digits_of" (defArgs (top 45)) (defBody (top 45)) (defScope (top 45)) [] [] (ga K "digits_of") (fdA K (ga K "digits_of")) := h.says.funD 22
  obtain ⟨_, g_CHUNK_DIGITS⟩ := h.chd
  obtain ⟨_, g_CHUNK⟩ := h.chunk
  have G : FnOk P w K mg base (L2.CX P w) (0 + 1) (ga K "digits_of") (fdA K (ga K "digits_of")) ["number"] (sp_digits_of K) := okX F sc_digits_of (fun vs H Q E hs => by (repeat (obtain ⟨_, hs⟩ := hs)) <;> subst_vars <;> rfl) (fun cdv A outer s H vs Q E hr hs => ?_)
  · exact ⟨G, h.glo _, F.kp, F.bindsN (fun _ _ _ _ _ _ us hl => match us, hl with | [_], _ => rfl)⟩
  refine ⟨_, (pss_cons (ps_set (i := 1) sc_digits_of.nd rfl (by first | exact Or.inl rfl | exact Or.inr rfl) (pe_callB call_abs (by rfl) (h.free "abs") (by decide +kernel) (pa_cons (pv 0) pa_nil)))
      (pss_cons (ps_set (i := 2) sc_digits_of.nd rfl (by first | exact Or.inl rfl | exact Or.inr rfl) (pe_lst pa_nil))
      (pss_cons (ps_while (passes_of rfl) (pt_cmpR op_ge (pv 1) (pe_glob (v := .int (10 ^ 60)) (by rfl) g_CHUNK ⟨_, rfl⟩) (nomark _))
        (pss_cons (ps_expr (pe_bm PySem.F.plainAttrs_list PySem.F.slot_list_append PySem.F.type_list_append mt_append (pv 2) (pa_cons (pe_bm PySem.F.plainAttrs_str PySem.F.slot_str_zfill PySem.F.type_str_zfill mt_zfill (pe_callTy call_str_int (by rfl) (h.free "str") (by decide +kernel) (pa_cons (pe_op op_modN (pv 1) (pe_glob (v := .int (10 ^ 60)) (by rfl) g_CHUNK ⟨_, rfl⟩)) pa_nil)) (pa_cons (pe_glob (v := .int 60) (by rfl) g_CHUNK_DIGITS ⟨_, rfl⟩) pa_nil)) pa_nil)))
        (pss_one (ps_set (i := 1) sc_digits_of.nd rfl (by first | exact Or.inl rfl | exact Or.inr rfl) (pe_op op_fdivX (pv 1) (pe_glob (v := .int (10 ^ 60)) (by rfl) g_CHUNK ⟨_, rfl⟩))))))
      (pss_cons (ps_expr (pe_bm PySem.F.plainAttrs_list PySem.F.slot_list_append PySem.F.type_list_append mt_append (pv 2) (pa_cons (pe_callTy call_str_int (by rfl) (h.free "str") (by decide +kernel) (pa_cons (pv 1) pa_nil)) pa_nil)))
      (pss_cons (ps_if (pt_cmpR op_lt (pv 0) pe_int (nomark _))
        (pss_one (ps_expr (pe_bm PySem.F.plainAttrs_list PySem.F.slot_list_append PySem.F.type_list_append mt_append (pv 2) (pa_cons pe_str pa_nil))))
        pss_nil)
      (pss_one (ps_ret (pe_join pe_str (pe_revL (pv 2)))))))))), ?_⟩
  obtain ⟨n, rfl, bn, hq⟩ := hs
  have cb : (10 : Int) ^ 60 = 1000000000000000000000000000000000000000000000000000000000000 := by decide
  have ll : ∀ {x : Int}, Bd 45 x → x.natAbs.log2 < 1920 := fun {x} b => Nat.lt_of_lt_of_le (PySem.Flt.log2_lt_of (by decide) b) (by decide)
  have ba : Bd 45 (if n < 0 then -n else n) := by
    split
    · exact bn.neg
    · exact bn
  have b60 : (if n < 0 then -n else n) < 10 ^ 60 := by
    have : n.natAbs < 2 ^ 45 := bn
    rw [cb]
    split <;> omega
  refine ⟨_, rfl, _, rfl, size0, fun l hl => ?_⟩
  dsimp only [gName, tSeq]
  refine while_by (fun σ H' => H' = upd H l (.lst []) ∧ σ = [some (.int n), some (.int (if n < 0 then -n else n)), some (.ref l)]) (fun _ _ => 0) ?_ ?_ (fun σ H Q Q' i ⟨v, e, a, b, h1, h2, k, t, q⟩ => ⟨v, e, a, b, h1, h2, k, t, i _ _ q⟩)
  · exact ⟨rfl, rfl⟩
  rintro σ H' ⟨rfl, rfl⟩
  refine ⟨_, rfl, _, _, rfl, rfl, _, rfl, ite2 (fun c => ?_) (fun _ => ?_)⟩
  · have : (10 : Int) ^ 60 ≤ (if n < 0 then -n else n) := by simpa using c
    omega
  have s1 := same_upd (o := .lst []) hl
  refine ⟨_, rfl, .inl ⟨rfl, _, SqL.of upd_same⟩, _, rfl, _, rfl, ll ba, l, _, _, rfl, rfl, upd_same, small_lt (by decide), ?_⟩
  have e0 : Str.ofString (toString (if n < 0 then -n else n)) = SX.S (TL.numL n.natAbs) := by
    have : (if n < 0 then -n else n) = ((n.natAbs : Nat) : Int) := by split <;> omega
    rw [this]
    exact SX.num_S _
  have s2 : ∀ o, Same H (upd (upd H l (.lst [])) l o) := fun o b u q => by
    rw [upd_ne (ne_of_none q hl)]
    exact s1 _ _ q
  have ln : (TL.numL n.natAbs).length ≤ 15 := TL.numL_len (k := 15) (by decide) (Nat.lt_trans (show n.natAbs < 2 ^ 45 from bn) (by decide))
  refine ⟨_, rfl, _, _, rfl, rfl, _, rfl, ite2 (fun c => ?_) (fun c => ?_)⟩
  · have c1 : n < 0 := by simpa using c
    refine ⟨_, rfl, .inl ⟨rfl, _, SqL.of upd_same⟩, l, _, _, rfl, rfl, upd_same, small_lt (show 1 ≤ 1000 by decide), ?_⟩
    refine ⟨⟨_, rfl⟩, _, rfl, l, _, rfl, SqL.of upd_same, fun p hp => ⟨_, p, [SX.S [45], SX.S (TL.numL n.natAbs)], rfl, rfl, .inl (SqL.of (by rw [upd_same, e0]; rfl)), ?_, ?_⟩⟩
    · have z : (Str.ofString "").length = 0 := rfl
      simp [SX.S_len, z]
      omega
    · have ej : Txt.join (Str.ofString "") [SX.S [45], SX.S (TL.numL n.natAbs)] = Str.ofString (toString n) := by
        rw [str_int]
        have := SX.join_S [] [[45], TL.numL n.natAbs]
        unfold numT
        rw [if_pos c1]
        exact this
      rw [ej]
      exact hq _ ((upd_again (s2 _) hl).trans (same_upd hp))
  · have c1 : ¬ n < 0 := by simpa using c
    refine ⟨⟨_, rfl⟩, _, rfl, l, _, rfl, SqL.of upd_same, fun p hp => ⟨_, p, [SX.S (TL.numL n.natAbs)], rfl, rfl, .inl (SqL.of (by rw [upd_same, e0]; rfl)), ?_, ?_⟩⟩
    · have z : (Str.ofString "").length = 0 := rfl
      simp [SX.S_len, z]
      omega
    · have ej : Txt.join (Str.ofString "") [SX.S (TL.numL n.natAbs)] = Str.ofString (toString n) := by
        rw [str_int]
        have := SX.join_S [] [TL.numL n.natAbs]
        unfold numT
        rw [if_neg c1]
        exact this
      rw [ej]
      exact hq _ ((s2 _).trans (same_upd hp))
end
end K0
namespace K0
open PySem PySem.Spec PyProof.Rows L2 He HX KF
section
variable {P : Program} {w : World} {K : PySem.W.Frag} {mg : Str → Option Value} {base : Heap}
def NN_look_ratio : List PySem.Str := ["num", "den", "end"]
theorem sc_look_ratio : FnScope NN_look_ratio ["num", "den", "end"] (defScope (top 49)) := ⟨rfl, rfl, rfl, by decide +kernel, rfl, by decide +kernel, by decide +kernel⟩
theorem ok_look_ratio (h : HK K mg) (x_BadText : CalX P w K mg base 1 "BadText" ps_X_BadText (sp_X_BadText K)) (c_common_divisor : Cal P w K mg base 1 "common_divisor" ["first", "second"] (sp_common_divisor K)) : Cal P w K mg base 3 "look_ratio" ["num", "den", "end"] (sp_look_ratio K) := by
  have F : FunD K "look_ratio" "look_ratio" (defArgs (top 49)) (defBody (top 49)) (defScope (top 49)) [] [] (ga K "look_ratio") (fdA K (ga K "look_ratio")) := h.says.funD 26
  have G : FnOk P w K mg base (L2.CX P w) (2 + 1) (ga K "look_ratio") (fdA K (ga K "look_ratio")) ["num", "den", "end"] (sp_look_ratio K) := okX F sc_look_ratio (fun vs H Q E hs => by (repeat (obtain ⟨_, hs⟩ := hs)) <;> subst_vars <;> rfl) (fun cdv A outer s H vs Q E hr hs => ?_)
  · exact ⟨G, h.glo _, F.kp, F.bindsN (fun _ _ _ _ _ _ us hl => match us, hl with | [_, _, _], _ => rfl)⟩
  refine ⟨_, (pss_cons (ps_if (pt_cmpR op_eq (pv 1) pe_int (nomark _))
        (pss_one (ps_raise (by rfl) (takes_of rfl rfl rfl rfl) (pmk_cal x_BadText hr (pa_cons (pv 2) pa_nil))))
        pss_nil)
      (pss_one (ps_if (PW.pt (pw_and (pt_cmpR op_gt (pv 1) pe_int (nomark _)) (pw_and1 (pt_cmpR op_gt (pe_cal c_common_divisor hr passL (pa_cons (pv 0) (pa_cons (pv 1) pa_nil))) pe_int (nomark _)))))
        (pss_one (ps_raise (by rfl) (takes_of rfl rfl rfl rfl) (pmk_cal x_BadText hr (pa_cons (pv 2) pa_nil))))
        pss_nil))), ?_⟩
  obtain ⟨n, d, e, rfl, h1, h2⟩ := hs
  have bad : ∀ (H' : Hp) (a dx : Addr), (d = 1 ∨ (1 < d ∧ 1 < gi n d)) → H a = none → But a (upd H a (exo a (ga K "BadText") none)) H' → dx ≠ a → H' dx = some (exd dx [("at", .int (e : Nat))]) → E (.ref (ga K "BadText")) (some dx) (del H' a) := fun H' a dx hn na but ne hd => by
    refine h2 hn _ dx (fun b o q => ?_) (.inr ?_)
    · rw [del_ne (ne_of_none q na)]
      exact same_but na but b o q
    · rw [del_ne ne]
      exact hd
  refine ⟨_, rfl, rfl, _, rfl, ite2 (fun c => ?_) (fun c => ?_)⟩
  · have c1 : d = 1 := by simpa using c
    exact ⟨_, rfl, (show 1 ≤ 1000 by decide), fun a na => ⟨a, _, rfl, upd_same, fun H2 dx but ha nd ne hd => ⟨rfl, some dx, ha, bad H2 a dx (.inl c1) na but ne hd⟩⟩⟩
  have c1 : ¬ d = 1 := by simpa using c
  refine ⟨_, rfl, _, _, rfl, rfl, _, rfl, ite2 (fun c => ?_) (fun c => ?_)⟩
  · have c2 : 1 < d := by simpa using c
    refine ⟨_, rfl, _, rfl, n, d, rfl, _, _, rfl, rfl, _, rfl, ite2 (fun c => ?_) (fun c => ?_)⟩
    · have c3 : 1 < gi n d := by simpa using c
      exact ⟨_, rfl, (show 1 ≤ 1000 by decide), fun a na => ⟨a, _, rfl, upd_same, fun H2 dx but ha nd ne hd => ⟨rfl, some dx, ha, bad H2 a dx (.inr ⟨c2, c3⟩) na but ne hd⟩⟩⟩
    · have c3 : ¬ 1 < gi n d := by simpa using c
      exact h1 (fun q => q.elim c1 fun q => c3 q.2)
  · have c2 : ¬ 1 < d := by simpa using c
    exact h1 (fun q => q.elim c1 fun q => c2 q.1)
end
end K0
namespace K0
open PySem PySem.Spec PyProof.Rows L2 He HX KF
section
variable {P : Program} {w : World} {K : PySem.W.Frag} {mg : Str → Option Value} {base : Heap}
def NN_num_den : List PySem.Str := ["number"]
theorem sc_num_den : FnScope NN_num_den ["number"] (defScope (top 43)) := ⟨rfl, rfl, rfl, by decide +kernel, rfl, by decide +kernel, by decide +kernel⟩
theorem ok_num_den (h : HK K mg) : Cal P w K mg base 1 "num_den" ["number"] (sp_num_den K) := by
  have F : FunD K "num_den" "num_den" (defArgs (top 43)) (defBody (top 43)) (defScope (top 43)) [] [] (ga K "num_den") (fdA K (ga K "num_den")) := h.says.funD 20
  have G : FnOk P w K mg base (L2.CX P w) (0 + 1) (ga K "num_den") (fdA K (ga K "num_den")) ["number"] (sp_num_den K) := okX F sc_num_den (fun vs H Q E hs => by (repeat (obtain ⟨_, hs⟩ := hs)) <;> subst_vars <;> rfl) (fun cdv A outer s H vs Q E hr hs => ?_)
  · exact ⟨G, h.glo _, F.kp, F.bindsN (fun _ _ _ _ _ _ us hl => match us, hl with | [_], _ => rfl)⟩
  refine ⟨_, (pss_cons (ps_if (pt_val (pe_callB call_isi (by rfl) (h.free "isinstance") (by decide +kernel) (pa_cons (pv 0) (pa_cons (pe_glob (v := .ref (ga K "Frac")) (by rfl) (h.glo "Frac") rfl) pa_nil))))
        (pss_one (ps_ret (pe_tup (pa_cons (pe_fld (pv 0) (by rfl)) (pa_cons (pe_fld (pv 0) (by rfl)) pa_nil)))))
        pss_nil)
      (pss_one (ps_ret (pe_tup (pa_cons (pv 0) (pa_cons pe_int pa_nil)))))), ?_⟩
  obtain ⟨v, n, d, rfl, hv, hq⟩ := hs
  have ff := h.ff
  rcases hv with ⟨rfl, rfl⟩ | ⟨a, rfl, dx, ha⟩
  · exact ⟨_, rfl, _, _, _, _, _, rfl, .own _, .base (.int _), ff.kI, _, rfl, iteF ⟨_, rfl, two_size, fun t ht => hq t ht⟩⟩
  · refine ⟨_, rfl, _, _, _, _, _, rfl, .own _, ff.tyX ha, ff.kF, _, rfl, iteT ?_⟩
    refine ⟨_, rfl, _, _, _, _, _, rfl, ha, ff.cls, ff.no _ (by decide +kernel), rfl, ⟨_, rfl, _, _, _, _, _, rfl, ha, ff.cls, ff.no _ (by decide +kernel), rfl, two_size, fun t ht => hq t ht⟩⟩
end
end K0
namespace K0
open PySem PySem.Spec PyProof.Rows L2 He HX KF
section
variable {P : Program} {w : World} {K : PySem.W.Frag} {mg : Str → Option Value} {base : Heap}
def NN_ratio_at : List PySem.Str := ["text", "at", "num", "end", "start"]
theorem sc_ratio_at : FnScope NN_ratio_at ["text", "at"] (defScope (top 48)) := ⟨rfl, rfl, rfl, by decide +kernel, rfl, by decide +kernel, by decide +kernel⟩
theorem ok_ratio_at (h : HK K mg) (c_digits_end : Cal P w K mg base 3 "digits_end" ["text", "start"] (sp_digits_end K)) (c_whole_at : Cal P w K mg base 4 "whole_at" ["text", "at"] (sp_whole_at K)) : Cal P w K mg base 5 "ratio_at" ["text", "at"] (sp_ratio_at K) := by
  have F : FunD K "ratio_at" "ratio_at" (defArgs (top 48)) (defBody (top 48)) (defScope (top 48)) [] [] (ga K "ratio_at") (fdA K (ga K "ratio_at")) := h.says.funD 25
  have G : FnOk P w K mg base (L2.CX P w) (4 + 1) (ga K "ratio_at") (fdA K (ga K "ratio_at")) ["text", "at"] (sp_ratio_at K) := okX F sc_ratio_at (fun vs H Q E hs => by (repeat (obtain ⟨_, hs⟩ := hs)) <;> subst_vars <;> rfl) (fun cdv A outer s H vs Q E hr hs => ?_)
  · exact ⟨G, h.glo _, F.kp, F.bindsN (fun _ _ _ _ _ _ us hl => match us, hl with | [_, _], _ => rfl)⟩
  refine ⟨_, (pss_cons (ps_asg (pe_cal c_whole_at hr (passes_call (takes_of rfl rfl rfl rfl) (fun _ _ _ _ h => h)) (pa_cons (pv 0) (pa_cons (pv 1) pa_nil))) (pg_tup (by rfl) (pgs_cons (pg_name (i := 2) sc_ratio_at.nd rfl (by first | exact Or.inl rfl | exact Or.inr rfl)) (pgs_cons (pg_name (i := 3) sc_ratio_at.nd rfl (by first | exact Or.inl rfl | exact Or.inr rfl)) pgs_nil))))
      (pss_cons (ps_if (pt_cmpR op_ne (pe_slice sl_str (pv 0) (po_some (pv 3)) (po_some (pe_op op_add (pv 3) pe_int))) pe_str (nomark _))
        (pss_one (ps_ret (pe_tup (pa_cons (pv 2) (pa_cons pe_int (pa_cons (pv 3) pa_nil))))))
        pss_nil)
      (pss_cons (ps_set (i := 4) sc_ratio_at.nd rfl (by first | exact Or.inl rfl | exact Or.inr rfl) (pe_op op_add (pv 3) pe_int))
      (pss_cons (ps_set (i := 3) sc_ratio_at.nd rfl (by first | exact Or.inl rfl | exact Or.inr rfl) (pe_cal c_digits_end hr (passes_call (takes_of rfl rfl rfl rfl) (fun _ _ _ _ h => h)) (pa_cons (pv 0) (pa_cons (pv 4) pa_nil))))
      (pss_one (ps_ret (pe_tup (pa_cons (pv 2) (pa_cons (pe_callTy call_int_str (by rfl) (h.free "int") (by decide +kernel) (pa_cons (pe_slice sl_str (pv 0) (po_some (pv 4)) (po_some (pv 3))) pa_nil)) (pa_cons (pv 3) pa_nil)))))))))), ?_⟩
  obtain ⟨z, a, rfl, hz, h1, h2⟩ := hs
  have eq0 : ∀ (a : Nat) (k : Nat) (c : Str), c = SX.S [k] → decide (V.str (cutS z (some (a : Int)) (some ((a : Int) + 1))) = V.str c) = decide ((chs z)[a]? = some k) := fun a k c e => by
    rw [show ((a : Int) + 1) = ((a + 1 : Nat) : Int) by omega, cutS_nat, cut1', e]
    exact ch_eq _ _
  have hsz : z.length ≤ sizeLine := small_size (by omega)
  refine ⟨_, rfl, _, rfl, z, a, rfl, hz, fun n e hw q hq => ?_, fun s hw => ?_⟩
  rotate_left
  · refine h2 s ?_
    unfold rAt
    rw [hw]
  have s1 := same_upd (o := .tup [.int n, .int (e : Nat)]) hq
  refine ⟨q, _, rfl, SqT.of upd_same, rfl, _, _, rfl, _, _, rfl, rfl, ?_⟩
  have r0 : rAt (chs z) a = if (chs z)[e]? = some 47 then (match dEnd (chs z) (e + 1) with
      | some f => .ok (n, iv (cut (chs z) (e + 1) f), f)
      | none => .error (e + 1)) else .ok (n, 0, e) := by
    unfold rAt
    rw [hw]
    all_goals rfl
  refine ⟨_, rfl, _, rfl, _, rfl, _, rfl, _, _, rfl, rfl, _, rfl, _, rfl, hsz, rfl, _, rfl, ?_⟩
  rw [eq0 e 47 _ (by decide +kernel)]
  by_cases c : (chs z)[e]? = some 47
  · rw [decide_eq_true c]
    rw [if_pos c] at r0
    refine ⟨_, rfl, _, _, rfl, rfl, ?_⟩
    refine ⟨_, rfl, _, rfl, z, e + 1, rfl, hz, fun f hf => ?_, fun hn => ?_⟩
    · rw [hf] at r0
      have dg := dEnd_at hf
      refine ⟨_, rfl, _, rfl, _, rfl, _, rfl, _, rfl, _, rfl, _, rfl, hsz, _, _, rfl, ?_, ?_, _, rfl, small_size (show 3 ≤ 1000 by decide), fun q' hq' => h1 _ _ _ r0 _ q' (s1.trans (same_upd hq')) (SqT.of upd_same)⟩
      · rw [show ((e : Int) + 1) = ((e + 1 : Nat) : Int) by omega, cutS_nat]
        exact (WOk.int (.inl dg.1))
      · rw [show ((e : Int) + 1) = ((e + 1 : Nat) : Int) by omega, cutS_nat, SX.S_len]
        have := dg.1.le
        omega
    · rw [hn] at r0
      exact (h2 _ r0).same s1
  · rw [decide_eq_false c]
    rw [if_neg c] at r0
    exact ⟨_, rfl, _, rfl, small_size (show 3 ≤ 1000 by decide), fun q' hq' => h1 _ _ _ r0 _ q' (s1.trans (same_upd hq')) (SqT.of upd_same)⟩
end
end K0
namespace K0
open PySem PySem.Spec PyProof.Rows L2 He HX KF
section
variable {P : Program} {w : World} {K : PySem.W.Frag} {mg : Str → Option Value} {base : Heap}
def NN_to_wholes : List PySem.Str := ["numbers", "den", "number", "wholes"]
theorem sc_to_wholes : FnScope NN_to_wholes ["numbers"] (defScope (top 44)) := ⟨rfl, rfl, rfl, by decide +kernel, rfl, by decide +kernel, by decide +kernel⟩
theorem ok_to_wholes (h : HK K mg) (c_common_divisor : Cal P w K mg base 1 "common_divisor" ["first", "second"] (sp_common_divisor K)) : Cal P w K mg base 2 "to_wholes" ["numbers"] (sp_to_wholes K) := by
  have F : FunD K "to_wholes" "to_wholes" (defArgs (top 44)) (defBody (top 44)) (defScope (top 44)) [] [] (ga K "to_wholes") (fdA K (ga K "to_wholes")) := h.says.funD 21
  have G : FnOk P w K mg base (L2.CX P w) (1 + 1) (ga K "to_wholes") (fdA K (ga K "to_wholes")) ["numbers"] (sp_to_wholes K) := okX F sc_to_wholes (fun vs H Q E hs => by (repeat (obtain ⟨_, hs⟩ := hs)) <;> subst_vars <;> rfl) (fun cdv A outer s H vs Q E hr hs => ?_)
  · exact ⟨G, h.glo _, F.kp, F.bindsN (fun _ _ _ _ _ _ us hl => match us, hl with | [_], _ => rfl)⟩
  refine ⟨_, (pss_cons (ps_set (i := 1) sc_to_wholes.nd rfl (by first | exact Or.inl rfl | exact Or.inr rfl) pe_int)
      (pss_cons (ps_for (passes_of rfl) (by rfl) (pi_or (pi_list (pv 0)) (pi_tup (pv 0))) (pg_name (i := 2) sc_to_wholes.nd rfl (by first | exact Or.inl rfl | exact Or.inr rfl))
        (pss_one (ps_if (PW.pt (pw_and (pt_val (pe_callB call_isi (by rfl) (h.free "isinstance") (by decide +kernel) (pa_cons (pv 2) (pa_cons (pe_glob (v := .ref (ga K "Frac")) (by rfl) (h.glo "Frac") rfl) pa_nil)))) (pw_and1 (pt_truth (pe_op op_modN (pv 1) (pe_fld (pv 2) (by rfl))) (by intro _; rfl)))))
          (pss_one (ps_set (i := 1) sc_to_wholes.nd rfl (by first | exact Or.inl rfl | exact Or.inr rfl) (pe_op op_mulW (pe_op op_fdivX (pv 1) (pe_cal c_common_divisor hr passL (pa_cons (pv 1) (pa_cons (pe_fld (pv 2) (by rfl)) pa_nil)))) (pe_fld (pv 2) (by rfl)))))
          pss_nil)))
      (pss_cons (ps_set (i := 3) sc_to_wholes.nd rfl (by first | exact Or.inl rfl | exact Or.inr rfl) (pe_lst pa_nil))
      (pss_cons (ps_for (passes_of rfl) (by rfl) (pi_or (pi_list (pv 0)) (pi_tup (pv 0))) (pg_name (i := 2) sc_to_wholes.nd rfl (by first | exact Or.inl rfl | exact Or.inr rfl))
        (pss_one (ps_if (pt_val (pe_callB call_isi (by rfl) (h.free "isinstance") (by decide +kernel) (pa_cons (pv 2) (pa_cons (pe_glob (v := .ref (ga K "Frac")) (by rfl) (h.glo "Frac") rfl) pa_nil))))
          (pss_one (ps_expr (pe_bm PySem.F.plainAttrs_list PySem.F.slot_list_append PySem.F.type_list_append mt_append (pv 3) (pa_cons (pe_op op_mulW (pe_fld (pv 2) (by rfl)) (pe_op op_fdivX (pv 1) (pe_fld (pv 2) (by rfl)))) pa_nil))))
          (pss_one (ps_expr (pe_bm PySem.F.plainAttrs_list PySem.F.slot_list_append PySem.F.type_list_append mt_append (pv 3) (pa_cons (pe_op op_mulW (pv 2) (pv 1)) pa_nil)))))))
      (pss_one (ps_ret (pe_tup (pa_cons (pv 3) (pa_cons (pv 1) pa_nil))))))))), ?_⟩
  obtain ⟨l, xs, rs, rfl, hx, hn, hz, hq⟩ := hs
  have ff := h.ff
  have hrl := hn.len
  dsimp only [tSeq, tAsg, tC, gName]
  refine for_x (H0 := H) (a := l) (xs := xs) rfl hx (fun i σ H' => H' = H ∧ ∃ (D : Int) (r : Option V), σ = [some (.ref l), some (.int D), r, none] ∧ 0 < D ∧ Bd (45 * i + 1) D ∧ ∀ j r, j < i → rs[j]? = some r → r.2 ∣ D) ?_ ?_ ?_ ?_
  · exact ⟨rfl, 1, none, rfl, by decide, by unfold Bd; decide, fun j r hj => by omega⟩
  · rintro i σ' H' ⟨rfl, _⟩
    exact Same.refl _
  · rintro i x σ' H' hxi ⟨rfl, D, r0, rfl, hD, bD, hdv⟩
    obtain ⟨r, hr, hv, pr, b1, b2⟩ := hn.get hxi
    have hi : i < xs.length := by
      obtain ⟨q, _⟩ := List.getElem?_eq_some_iff.mp hxi
      exact q
    have fin : ∀ D', 0 < D' → Bd (45 * (i + 1) + 1) D' → r.2 ∣ D' → D ∣ D' → (0 < D' ∧ Bd (45 * (i + 1) + 1) D' ∧ ∀ j r', j < i + 1 → rs[j]? = some r' → r'.2 ∣ D') := fun D' h1 h2 h3 h4 => ⟨h1, h2, fun j r' hj hr' => by
      by_cases e : j = i
      · subst e
        rw [hr] at hr'
        cases hr'
        exact h3
      · exact Int.dvd_trans (hdv j r' (by omega) hr') h4⟩
    rcases hv with ⟨rfl, e1⟩ | ⟨a, rfl, dx, ha⟩
    · refine ⟨_, rfl, _, _, _, _, _, rfl, .own _, .base (.int _), ff.kI, _, rfl, iteF ?_⟩
      exact ⟨rfl, D, _, rfl, fin D hD (bD.mono (by omega)) (by rw [e1]; exact Int.one_dvd D) (Int.dvd_refl D)⟩
    · refine ⟨_, rfl, _, _, _, _, _, rfl, .own _, ff.tyX ha, ff.kF, _, rfl, iteT ?_⟩
      refine ⟨_, rfl, _, rfl, _, _, _, _, _, rfl, ha, ff.cls, ff.no _ (by decide +kernel), rfl, _, _, rfl, rfl, by omega, _, rfl, ?_⟩
      by_cases hm : D.fmod r.2 = 0
      · rw [hm]
        exact ⟨rfl, D, _, rfl, fin D hD (bD.mono (by omega)) (dvd_of_fmod hm) (Int.dvd_refl D)⟩
      · rw [show (D.fmod r.2 != 0) = true by simpa using hm]
        have g0 := gi_pos (a := D) (b := r.2) (by omega)
        have gd := gi_dvd_left D r.2
        have ge := gi_dvd_right D r.2
        have eq1 : D.fdiv (gi D r.2) = D / gi D r.2 := Int.fdiv_eq_ediv_of_dvd gd
        have hb : Bd (45 * i + 1) (D.fdiv (gi D r.2)) := bD.le (natAbs_fdiv_le D (by omega))
        refine iteT ⟨_, rfl, _, rfl, _, rfl, _, _, _, _, _, rfl, ha, ff.cls, ff.no _ (by decide +kernel), rfl, D, r.2, rfl, _, _, rfl, rfl, Bd.divX (Bd.gi (a := D) b2 (by omega)) (by omega), _, rfl, _, _, _, _, _, rfl, ha, ff.cls, ff.no _ (by decide +kernel), rfl, _, _, rfl, rfl, wide_mul hb b2 (by omega) (by decide) (by omega), ?_⟩
        have m1 : D / gi D r.2 * gi D r.2 = D := Int.ediv_mul_cancel gd
        have m2 : r.2 / gi D r.2 * gi D r.2 = r.2 := Int.ediv_mul_cancel ge
        have hq0 : 0 < D / gi D r.2 := Int.ediv_pos_of_pos_of_dvd hD (by omega) gd
        refine ⟨rfl, _, _, rfl, fin _ ?_ ?_ ?_ ?_⟩
        · rw [eq1]
          exact Int.mul_pos hq0 pr
        · exact (Bd.mul hb b2).mono (by omega)
        · exact ⟨D.fdiv (gi D r.2), Int.mul_comm _ _⟩
        · rw [eq1]
          refine ⟨r.2 / gi D r.2, ?_⟩
          calc D / gi D r.2 * r.2 = D / gi D r.2 * (r.2 / gi D r.2 * gi D r.2) := by rw [m2]
            _ = (D / gi D r.2 * gi D r.2) * (r.2 / gi D r.2) := by rw [Int.mul_assoc, Int.mul_comm (r.2 / gi D r.2)]
            _ = D * (r.2 / gi D r.2) := by rw [m1]
  rintro σ' H' ⟨rfl, D, r0, rfl, hD, bD, hdv⟩
  have bD' : Bd 460 D := bD.mono (by omega)
  have ediv : ∀ r, r ∈ rs → D / r.2 * r.2 = D := fun r hr => by
    obtain ⟨j, hj⟩ := List.mem_iff_getElem?.mp hr
    have hj2 : j < xs.length := by
      obtain ⟨q, _⟩ := List.getElem?_eq_some_iff.mp hj
      omega
    exact Int.ediv_mul_cancel (hdv j r hj2 hj)
  refine ⟨size0, fun lw hlw => ?_⟩
  have sL : ∀ o, Same H' (upd H' lw o) := fun o => same_upd hlw
  refine for_x (H0 := H') (a := l) (xs := xs) rfl hx (fun i σ H2 => ∃ r : Option V, H2 = upd H' lw (.lst (((rs.take i).map fun r => r.1 * (D / r.2)).map V.int)) ∧ σ = [some (.ref l), some (.int D), r, some (.ref lw)]) ?_ ?_ ?_ ?_
  · exact ⟨r0, rfl, rfl⟩
  · rintro i σ H2 ⟨r, rfl, _⟩
    exact sL _
  · rintro i x σ H2 hxi ⟨r1, rfl, rfl⟩
    obtain ⟨r, hr, hv, pr, b1, b2⟩ := (hn.same (sL (.lst (((rs.take i).map fun r => r.1 * (D / r.2)).map V.int)))).get hxi
    have tk : ∀ z, z = r.1 * (D / r.2) → upd (upd H' lw (.lst (((rs.take i).map fun r => r.1 * (D / r.2)).map V.int))) lw (.lst ((((rs.take i).map fun r => r.1 * (D / r.2)).map V.int) ++ [V.int z])) = upd H' lw (.lst (((rs.take (i + 1)).map fun r => r.1 * (D / r.2)).map V.int)) := fun z e => by
      rw [upd_upd, List.take_succ, hr, e]
      simp
    have hi : i < xs.length := by
      obtain ⟨q, _⟩ := List.getElem?_eq_some_iff.mp hxi
      exact q
    have sz : ((((rs.take i).map fun r => r.1 * (D / r.2)).map V.int)).length < sizeLine := small_lt (by simp; omega)
    rcases hv with ⟨rfl, e1⟩ | ⟨a, rfl, dx, ha⟩
    · refine ⟨_, rfl, _, _, _, _, _, rfl, .own _, .base (.int _), ff.kI, _, rfl, iteF ?_⟩
      refine ⟨_, rfl, .inl ⟨rfl, _, SqL.of upd_same⟩, _, rfl, _, rfl, _, _, rfl, rfl, Bd.mulW b1 bD', lw, _, _, rfl, rfl, upd_same, sz, ?_⟩
      exact ⟨_, tk _ (by rw [e1, Int.ediv_one]), rfl⟩
    · refine ⟨_, rfl, _, _, _, _, _, rfl, .own _, ff.tyX ha, ff.kF, _, rfl, iteT ?_⟩
      refine ⟨_, rfl, .inl ⟨rfl, _, SqL.of upd_same⟩, _, rfl, _, _, _, _, _, rfl, ha, ff.cls, ff.no _ (by decide +kernel), rfl, _, rfl, _, rfl, _, _, _, _, _, rfl, ha, ff.cls, ff.no _ (by decide +kernel), rfl, _, _, rfl, rfl, Bd.divX b2 (by omega), _, _, rfl, rfl, Bd.mulW b1 (bD'.le (natAbs_fdiv_le D (by omega))), lw, _, _, rfl, rfl, upd_same, sz, ?_⟩
      exact ⟨_, tk _ (by rw [Int.fdiv_eq_ediv_of_nonneg D (by omega)]), rfl⟩
  rintro σ H2 ⟨r1, rfl, rfl⟩
  have et : rs.take xs.length = rs := by rw [hrl, List.take_length]
  rw [et]
  refine ⟨_, rfl, _, rfl, two_size, fun t ht => hq _ t lw D _ ((sL _).trans (same_upd ht)) (SqT.of upd_same) (same_upd ht _ _ upd_same) hD (bD'.mono (by decide)) ?_⟩
  have := sumF_ws D rs (rs.map fun r => r.1 * (D / r.2)) 0 0 1 (by simp) (by simp) (fun i r w hr hw => by
    rw [List.getElem?_map, hr] at hw
    cases hw
    rw [Int.mul_assoc, ediv r (List.mem_of_getElem? hr)])
  rw [Int.zero_add] at this
  exact this
end
end K0
namespace K0
open PySem PySem.Spec PyProof.Rows L2 He HX KF
section
variable {P : Program} {w : World} {K : PySem.W.Frag} {mg : Str → Option Value} {base : Heap}
def NN_whole_at : List PySem.Str := ["text", "at", "start", "end"]
theorem sc_whole_at : FnScope NN_whole_at ["text", "at"] (defScope (top 47)) := ⟨rfl, rfl, rfl, by decide +kernel, rfl, by decide +kernel, by decide +kernel⟩
theorem ok_whole_at (h : HK K mg) (c_digits_end : Cal P w K mg base 3 "digits_end" ["text", "start"] (sp_digits_end K)) : Cal P w K mg base 4 "whole_at" ["text", "at"] (sp_whole_at K) := by
  have F : FunD K "whole_at" "whole_at" (defArgs (top 47)) (defBody (top 47)) (defScope (top 47)) [] [] (ga K "whole_at") (fdA K (ga K "whole_at")) := h.says.funD 24
  have G : FnOk P w K mg base (L2.CX P w) (3 + 1) (ga K "whole_at") (fdA K (ga K "whole_at")) ["text", "at"] (sp_whole_at K) := okX F sc_whole_at (fun vs H Q E hs => by (repeat (obtain ⟨_, hs⟩ := hs)) <;> subst_vars <;> rfl) (fun cdv A outer s H vs Q E hr hs => ?_)
  · exact ⟨G, h.glo _, F.kp, F.bindsN (fun _ _ _ _ _ _ us hl => match us, hl with | [_, _], _ => rfl)⟩
  refine ⟨_, (pss_cons (ps_if (pt_cmpR op_eq (pe_slice sl_str (pv 0) (po_some (pv 1)) (po_some (pe_op op_add (pv 1) pe_int))) pe_str (nomark _))
        (pss_one (ps_ret (pe_tup (pa_cons pe_int (pa_cons (pe_op op_add (pv 1) pe_int) pa_nil)))))
        pss_nil)
      (pss_cons (ps_set (i := 2) sc_whole_at.nd rfl (by first | exact Or.inl rfl | exact Or.inr rfl) (pv 1))
      (pss_cons (ps_if (pt_cmpR op_eq (pe_slice sl_str (pv 0) (po_some (pv 1)) (po_some (pe_op op_add (pv 1) pe_int))) pe_str (nomark _))
        (pss_one (ps_set (i := 2) sc_whole_at.nd rfl (by first | exact Or.inl rfl | exact Or.inr rfl) (pe_op op_add (pv 1) pe_int)))
        pss_nil)
      (pss_cons (ps_set (i := 3) sc_whole_at.nd rfl (by first | exact Or.inl rfl | exact Or.inr rfl) (pe_cal c_digits_end hr (passes_call (takes_of rfl rfl rfl rfl) (fun _ _ _ _ h => h)) (pa_cons (pv 0) (pa_cons (pv 2) pa_nil))))
      (pss_one (ps_ret (pe_tup (pa_cons (pe_callTy call_int_str (by rfl) (h.free "int") (by decide +kernel) (pa_cons (pe_slice sl_str (pv 0) (po_some (pv 1)) (po_some (pv 3))) pa_nil)) (pa_cons (pv 3) pa_nil))))))))), ?_⟩
  obtain ⟨z, a, rfl, hz, h1, h2⟩ := hs
  have eq0 : ∀ (a : Nat) (k : Nat) (c : Str), c = SX.S [k] → decide (V.str (cutS z (some (a : Int)) (some ((a : Int) + 1))) = V.str c) = decide ((chs z)[a]? = some k) := fun a k c e => by
    rw [show ((a : Int) + 1) = ((a + 1 : Nat) : Int) by omega, cutS_nat, cut1', e]
    exact ch_eq _ _
  have hsz : z.length ≤ sizeLine := small_size (by omega)
  refine ⟨_, rfl, _, rfl, _, rfl, _, rfl, _, _, rfl, rfl, _, rfl, _, rfl, hsz, rfl, _, rfl, ?_⟩
  rw [eq0 a 48 _ (by decide +kernel)]
  refine ite2 (fun c => ?_) (fun c => ?_)
  · have c' : (chs z)[a]? = some 48 := of_decide_eq_true c
    have e0 : wAt (chs z) a = .ok (0, a + 1) := by
      unfold wAt
      rw [if_pos c']
    exact ⟨_, rfl, _, _, rfl, rfl, two_size, fun q hq => h1 _ _ e0 q hq⟩
  have c1 : ¬ (chs z)[a]? = some 48 := fun q => c (decide_eq_true q)
  refine ⟨_, rfl, _, rfl, _, rfl, _, rfl, _, rfl, _, _, rfl, rfl, _, rfl, _, rfl, hsz, rfl, _, rfl, ?_⟩
  rw [eq0 a 45 _ (by decide +kernel)]
  refine ite2 (fun c => ?_) (fun c => ?_)
  · have c2 : (chs z)[a]? = some 45 := of_decide_eq_true c
    refine ⟨_, rfl, _, _, rfl, rfl, ?_⟩
    refine ⟨_, rfl, _, rfl, z, a + 1, rfl, hz, fun e he => ?_, fun hn => ?_⟩
    · have dg := dEnd_at he
      have e1 : wAt (chs z) a = .ok (iv (cut (chs z) a e), e) := by
        unfold wAt
        rw [if_neg c1, if_pos c2, he]
      have ok : WOk (cut (chs z) a e) := .inr ⟨_, cut_cons c2 (by omega), dg.1⟩
      refine ⟨_, rfl, _, rfl, _, rfl, _, rfl, _, rfl, _, rfl, hsz, _, _, rfl, ?_, ?_, _, rfl, two_size, fun q hq => h1 _ _ e1 q hq⟩
      · rw [cutS_nat]
        exact ok.int
      · rw [cutS_nat, SX.S_len]
        have := ok.len
        omega
    · refine h2 _ ?_
      unfold wAt
      rw [if_neg c1, if_pos c2, hn]
  · have c2 : ¬ (chs z)[a]? = some 45 := fun q => c (decide_eq_true q)
    refine ⟨_, rfl, _, rfl, z, a, rfl, hz, fun e he => ?_, fun hn => ?_⟩
    · have dg := dEnd_at he
      have e1 : wAt (chs z) a = .ok (iv (cut (chs z) a e), e) := by
        unfold wAt
        rw [if_neg c1, if_neg c2, he]
      have ok : WOk (cut (chs z) a e) := .inl dg.1
      refine ⟨_, rfl, _, rfl, _, rfl, _, rfl, _, rfl, _, rfl, hsz, _, _, rfl, ?_, ?_, _, rfl, two_size, fun q hq => h1 _ _ e1 q hq⟩
      · rw [cutS_nat]
        exact ok.int
      · rw [cutS_nat, SX.S_len]
        have := ok.len
        omega
    · refine h2 _ ?_
      unfold wAt
      rw [if_neg c1, if_neg c2, hn]
end
end K0
namespace K0
open PySem PySem.Spec PyProof.Rows L2 He HX KF
theorem atI_rng {α : Type} {xs : List α} {i : Int} (h0 : -(xs.length : Int) ≤ i) (h : i < xs.length) : ∃ (v : α) (j : Nat), atI xs i = some v ∧ xs[j]? = some v := by
  unfold atI ixN
  by_cases c : 0 ≤ i
  · rw [if_pos c, if_pos h]
    have hj : i.toNat < xs.length := by omega
    exact ⟨xs[i.toNat], i.toNat, by simp [hj], by simp [hj]⟩
  · rw [if_neg c, if_pos h0]
    have hj : (i + xs.length).toNat < xs.length := by omega
    exact ⟨xs[(i + xs.length).toNat], (i + xs.length).toNat, by simp [hj], by simp [hj]⟩
theorem SqT.updL {K : PySem.W.Frag} {H : Hp} {D a : Addr} {zs zs' xs : List V} (hD : H D = some (.lst zs)) (h : SqT K H a xs) : SqT K (upd H D (.lst zs')) a xs := by
  rcases h with (h | ⟨o, h⟩) | h
  · refine .inl (.inl ?_)
    rw [upd_ne (fun w => by
      rw [w, hD] at h
      cases h)]
    exact h
  · refine .inl (.inr ⟨o, ?_⟩)
    rw [upd_ne (fun w => by
      rw [w, hD] at h
      cases h)]
    exact h
  · exact .inr h
theorem Ones.updL {K : PySem.W.Frag} {H : Hp} {D : Addr} {zs zs' : List V} (hD : H D = some (.lst zs)) : ∀ {xs : List V} {rs : List (Int × Int × Bool)}, Ones K H xs rs → Ones K (upd H D (.lst zs')) xs rs
  | [], [], _ => trivial
  | _ :: _, _ :: _, ⟨⟨a, h1, h2⟩, h5⟩ => ⟨⟨a, h1, SqT.updL hD h2.1, h2.2⟩, Ones.updL hD h5⟩
  | [], _ :: _, h => h.elim
  | _ :: _, [], h => h.elim
theorem Ones.pool {K : PySem.W.Frag} {H H' : Hp} {p : Addr} (hp : PoolAt H p) (t : PoolTo p H H') : ∀ {xs : List V} {rs : List (Int × Int × Bool)}, Ones K H xs rs → Ones K H' xs rs
  | [], [], _ => trivial
  | _ :: _, _ :: _, ⟨⟨a, h1, h2⟩, h5⟩ => ⟨⟨a, h1, t.one hp h2⟩, Ones.pool hp t h5⟩
  | [], _ :: _, h => h.elim
  | _ :: _, [], h => h.elim
theorem Ones.snoc {K : PySem.W.Frag} {H : Hp} {a : Addr} {r : Int × Int × Bool} : ∀ {xs : List V} {rs : List (Int × Int × Bool)}, Ones K H xs rs → One K H a r.1 r.2.1 r.2.2 → Ones K H (xs ++ [.ref a]) (rs ++ [r])
  | [], [], _, h => ⟨⟨a, rfl, h⟩, trivial⟩
  | _ :: _, _ :: _, ⟨h1, h5⟩, h => ⟨h1, Ones.snoc h5 h⟩
  | [], _ :: _, h, _ => h.elim
  | _ :: _, [], h, _ => h.elim
theorem Ones.at {K : PySem.W.Frag} {H : Hp} {xs : List V} {rs : List (Int × Int × Bool)} {i : Int} (o : Ones K H xs rs) (h0 : -(xs.length : Int) ≤ i) (h : i < xs.length) : ∃ (a : Addr) (n d : Int) (fl : Bool), atI xs i = some (.ref a) ∧ One K H a n d fl := by
  obtain ⟨v, j, e, g⟩ := atI_rng h0 h
  obtain ⟨r, a, _, rfl, h1⟩ := o.get g
  exact ⟨a, _, _, _, e, h1⟩
theorem PoolAt.ne {H2 : Hp} {x p : Addr} (h2 : PoolAt H2 p) (hx : H2 x = none) : x ≠ p := fun z => by
  obtain ⟨xs, e, _⟩ := h2
  rw [z, e] at hx
  cases hx
theorem PoolAt.same {H H' : Hp} {p : Addr} (h : PoolAt H p) (s : Same H H') : PoolAt H' p := ((PoolTo.refl h).same s).2
theorem PoolAt.updL {H : Hp} {p D : Addr} {o : HO} (h : PoolAt H p) (n : D ≠ p) : PoolAt (upd H D o) p := by
  obtain ⟨xs, e, r⟩ := h
  exact ⟨xs, by rw [upd_ne (Ne.symm n)]; exact e, r⟩
theorem txt_len {n d : Int} (h : Bd 45 n) (h' : Bd 45 d) : (txt n d).length ≤ 600 := by
  have a := len_num h
  have b := len_num h'
  have e : (Str.ofString "/").length = 1 := by decide +kernel
  unfold txt
  split
  · omega
  · rw [str_len_app, str_len_app]
    omega
theorem l12s {x : Int} (h : x.natAbs ≤ 100) : L12 x := by
  unfold L12
  have : (10 : Nat) ^ 12 = 1000000000000 := by decide
  omega
def lawT : List Str := [("0" : Str), ("-7/3" : Str), ("0/5" : Str), ("3/1" : Str), ("-0" : Str), ("01" : Str), ("" : Str), ("-" : Str), ("1/" : Str), ("1/0" : Str), ("-4/6" : Str)]
section
variable {P : Program} {w : World} {K : PySem.W.Frag} {mg : Str → Option Value} {base : Heap}
def NN_law : List PySem.Str := ["script", "pool", "numbers", "k", "one", "zero", "text", "top", "den", "more", "near"]
theorem sc_law : FnScope NN_law ["script"] (defScope (top 77)) := ⟨rfl, rfl, rfl, by decide +kernel, rfl, by decide +kernel, by decide +kernel⟩
theorem ok_law (h : HK K mg) (c_FR : CalF P w K mg base) (c__law_cells : Cal P w K mg base 1 "_law_cells" ["script"] (sp__law_cells K)) (c__law_draw : Cal P w K mg base 1 "_law_draw" ["pool", "many"] (sp__law_draw K)) (c__law_errors : Cal P w K mg base 5 "_law_errors" ["first", "second", "word"] (sp__law_errors K)) (c__law_is : Cal P w K mg base 3 "_law_is" ["told", "num", "den"] (sp__law_is K)) (c__law_low : Cal P w K mg base 2 "_law_low" ["num", "den"] (sp__law_low K)) (c__law_number : Cal P w K mg base 2 "_law_number" ["pool"] (sp__law_number K)) (c__law_one : Cal P w K mg base 8 "_law_one" ["one"] (sp__law_one K)) (c__law_ratio : Cal P w K mg base 3 "_law_ratio" ["pool"] (sp__law_ratio K)) (c__law_reads : Cal P w K mg base 8 "_law_reads" ["text"] (sp__law_reads K)) (c__law_spoilt : Cal P w K mg base 2 "_law_spoilt" ["pool", "text"] (sp__law_spoilt K)) (c__law_sums : Cal P w K mg base 8 "_law_sums" ["numbers"] (sp__law_sums K)) (c__law_text : Cal P w K mg base 1 "_law_text" ["low"] (sp__law_text K)) (c__law_twin : Cal P w K mg base 2 "_law_twin" ["pool", "one"] (sp__law_twin K)) (c__law_two : Cal P w K mg base 9 "_law_two" ["one", "two"] (sp__law_two K)) : Cal P w K mg base 11 "law" ["script"] (sp_law K) := by
  have F : FunD K "law" "law" (defArgs (top 77)) (defBody (top 77)) (defScope (top 77)) [] [] (ga K "law") (fdA K (ga K "law")) := h.says.funD 53
  have G : FnOk P w K mg base (L2.CX P w) (10 + 1) (ga K "law") (fdA K (ga K "law")) ["script"] (sp_law K) := okX F sc_law (fun vs H Q E hs => by (repeat (obtain ⟨_, hs⟩ := hs)) <;> subst_vars <;> rfl) (fun cdv A outer s H vs Q E hr hs => ?_)
  · exact ⟨G, h.glo _, F.kp, F.bindsN (fun _ _ _ _ _ _ us hl => match us, hl with | [_], _ => rfl)⟩
  refine ⟨_, (pss_cons (ps_set (i := 1) sc_law.nd rfl (by first | exact Or.inl rfl | exact Or.inr rfl) (pe_cal c__law_cells hr passL (pa_cons (pv 0) pa_nil)))
      (pss_cons (ps_setLc (i := 2) (own := [("k", 3)]) (g := gName 3) (by rfl) sc_law.nd rfl rfl (sw_true rfl rfl rfl (by decide +kernel)) (pi_range1 (by rfl) (h.free "range") (pa_cons (pe_op op_add pe_int (pe_cal c__law_draw hr passL (pa_cons (pv 1) (pa_cons pe_int pa_nil)))) pa_nil)) (blkOk_by (own := [("k", 3)]) (N := NN_law) (sc := defScope (top 77)) (by decide +kernel)) (fun _ _ _ _ _ => pg_name (i := 3) sc_law.nd rfl (Or.inl rfl)) (fun _ _ _ _ _ => pts_nil) (fun _ _ _ _ _ => (pe_cal c__law_number hr passL (pa_cons (pv 1) pa_nil))))
      (pss_cons (ps_expr (pe_bm PySem.F.plainAttrs_list PySem.F.slot_list_append PySem.F.type_list_append mt_append (pv 2) (pa_cons (pe_cal c__law_twin hr passL (pa_cons (pv 1) (pa_cons (pe_ix ix_list (pv 2) pe_int (fun _ _ => rfl)) pa_nil))) pa_nil)))
      (pss_cons (ps_for (passes_of rfl) (by rfl) (pi_range1 (by rfl) (h.free "range") (pa_cons (pe_callB call_len_seq (by rfl) (h.free "len") (by decide +kernel) (pa_cons (pv 2) pa_nil)) pa_nil)) (pg_name (i := 3) sc_law.nd rfl (by first | exact Or.inl rfl | exact Or.inr rfl))
        (pss_cons (ps_set (i := 4) sc_law.nd rfl (by first | exact Or.inl rfl | exact Or.inr rfl) (pe_ix ix_list (pv 2) (pv 3) (fun _ _ => rfl)))
        (pss_cons (ps_if (PW.pt (pw_or (pt_not (pt_val (pe_cal c__law_one hr passL (pa_cons (pv 4) pa_nil)))) (pw_or1 (pt_not (pt_val (pe_cal c__law_two hr passL (pa_cons (pv 4) (pa_cons (pe_ix ix_list (pv 2) (pe_op op_sub (pv 3) pe_int) (fun _ _ => rfl)) pa_nil))))))))
          (pss_one (ps_ret pe_bl))
          pss_nil)
        (pss_cons (ps_if (pt_not (pt_val (pe_cal c__law_two hr passL (pa_cons (pv 4) (pa_cons (pv 4) pa_nil)))))
          (pss_one (ps_ret pe_bl))
          pss_nil)
        (pss_one (ps_if (pt_not (pt_val (pe_cal c__law_reads hr passL (pa_cons (pe_cal c__law_text hr passL (pa_cons (pe_cal c__law_low hr passL (pa_cons (pe_ix ix_tup (pv 4) pe_int (fun _ _ => rfl)) (pa_cons (pe_ix ix_tup (pv 4) pe_int (fun _ _ => rfl)) pa_nil))) pa_nil)) pa_nil))))
          (pss_one (ps_ret pe_bl))
          pss_nil))))))
      (pss_cons (ps_for (passes_of rfl) (by rfl) (pi_list (pe_lst (pa_cons (pe_tup (pa_cons pe_int (pa_cons pe_int (pa_cons pe_bl pa_nil)))) (pa_cons (pe_tup (pa_cons pe_int (pa_cons (pe_un un_neg pe_int) (pa_cons pe_bl pa_nil)))) (pa_cons (pe_tup (pa_cons pe_int (pa_cons pe_int (pa_cons pe_bl pa_nil)))) (pa_cons (pe_tup (pa_cons (pe_un un_neg pe_int) (pa_cons pe_int (pa_cons pe_bl pa_nil)))) pa_nil)))))) (pg_name (i := 5) sc_law.nd rfl (by first | exact Or.inl rfl | exact Or.inr rfl))
        (pss_one (ps_if (PW.pt (pw_or (pt_not (pt_val (pe_cal c__law_two hr passL (pa_cons (pe_ix ix_list (pv 2) pe_int (fun _ _ => rfl)) (pa_cons (pv 5) pa_nil))))) (pw_or1 (pt_not (pt_val (pe_cal c__law_two hr passL (pa_cons (pv 5) (pa_cons (pe_ix ix_list (pv 2) pe_int (fun _ _ => rfl)) pa_nil))))))))
          (pss_one (ps_ret pe_bl))
          pss_nil)))
      (pss_cons (ps_if (PW.pt (pw_or (pt_not (pt_val (pe_cal c__law_sums hr passL (pa_cons (pv 2) pa_nil)))) (pw_or1 (pt_not (pt_val (pe_cal c__law_is hr passL (pa_cons (pe_fr0 c_FR hr) (pa_cons pe_int (pa_cons pe_int pa_nil)))))))))
        (pss_one (ps_ret pe_bl))
        pss_nil)
      (pss_cons (ps_for (passes_of rfl) (by rfl) (pi_list (pe_lst (pa_cons pe_str (pa_cons pe_str (pa_cons pe_str (pa_cons pe_str (pa_cons pe_str (pa_cons pe_str (pa_cons pe_str (pa_cons pe_str (pa_cons pe_str (pa_cons pe_str (pa_cons pe_str pa_nil))))))))))))) (pg_name (i := 6) sc_law.nd rfl (by first | exact Or.inl rfl | exact Or.inr rfl))
        (pss_one (ps_if (pt_not (pt_val (pe_cal c__law_reads hr passL (pa_cons (pv 6) pa_nil))))
          (pss_one (ps_ret pe_bl))
          pss_nil)))
      (pss_cons (ps_set (i := 7) sc_law.nd rfl (by first | exact Or.inl rfl | exact Or.inr rfl) (pe_op op_add pe_int (pe_cal c__law_draw hr passL (pa_cons (pv 1) (pa_cons pe_int pa_nil)))))
      (pss_cons (ps_set (i := 8) sc_law.nd rfl (by first | exact Or.inl rfl | exact Or.inr rfl) (pe_op op_add pe_int (pe_cal c__law_draw hr passL (pa_cons (pv 1) (pa_cons pe_int pa_nil)))))
      (pss_cons (ps_set (i := 9) sc_law.nd rfl (by first | exact Or.inl rfl | exact Or.inr rfl) (pe_op op_add (pv 8) pe_int))
      (pss_cons (ps_set (i := 10) sc_law.nd rfl (by first | exact Or.inl rfl | exact Or.inr rfl) (pe_lst (pa_cons (pe_tup (pa_cons (pv 7) (pa_cons (pv 8) (pa_cons pe_bl pa_nil)))) (pa_cons (pe_tup (pa_cons (pv 7) (pa_cons (pv 9) (pa_cons pe_bl pa_nil)))) (pa_cons (pe_tup (pa_cons (pe_op op_add (pv 7) (pv 8)) (pa_cons (pv 8) (pa_cons pe_bl pa_nil)))) pa_nil)))))
      (pss_cons (ps_for (passes_of rfl) (by rfl) (pi_range1 (by rfl) (h.free "range") (pa_cons pe_int pa_nil)) (pg_name (i := 3) sc_law.nd rfl (by first | exact Or.inl rfl | exact Or.inr rfl))
        (pss_one (ps_if (pt_not (pt_val (pe_cal c__law_two hr passL (pa_cons (pe_ix ix_list (pv 10) (pv 3) (fun _ _ => rfl)) (pa_cons (pe_ix ix_list (pv 10) (pe_op op_sub (pv 3) pe_int) (fun _ _ => rfl)) pa_nil)))))
          (pss_one (ps_ret pe_bl))
          pss_nil)))
      (pss_cons (ps_set (i := 4) sc_law.nd rfl (by first | exact Or.inl rfl | exact Or.inr rfl) (pe_op op_sub (pe_cal c__law_draw hr passL (pa_cons (pv 1) (pa_cons (pe_op op_add (pe_op op_mulW pe_int (pe_op op_pow pe_int pe_int)) pe_int) pa_nil))) (pe_op op_pow pe_int pe_int)))
      (pss_cons (ps_if (pt_not (pt_val (pe_cal c__law_errors hr passL (pa_cons (pv 4) (pa_cons (pe_op op_sub (pe_cal c__law_draw hr passL (pa_cons (pv 1) (pa_cons pe_int pa_nil))) pe_int) (pa_cons (pe_cal c__law_ratio hr passL (pa_cons (pv 1) pa_nil)) pa_nil))))))
        (pss_one (ps_ret pe_bl))
        pss_nil)
      (pss_cons (ps_for (passes_of rfl) (by rfl) (pi_range1 (by rfl) (h.free "range") (pa_cons pe_int pa_nil)) (pg_name (i := 3) sc_law.nd rfl (by first | exact Or.inl rfl | exact Or.inr rfl))
        (pss_cons (ps_set (i := 6) sc_law.nd rfl (by first | exact Or.inl rfl | exact Or.inr rfl) (pe_cal c__law_ratio hr passL (pa_cons (pv 1) pa_nil)))
        (pss_cons (ps_set (i := 10) sc_law.nd rfl (by first | exact Or.inl rfl | exact Or.inr rfl) (pe_cal c__law_spoilt hr passL (pa_cons (pv 1) (pa_cons (pv 6) pa_nil))))
        (pss_cons (ps_if (PW.pt (pw_or (pt_not (pt_val (pe_cal c__law_reads hr passL (pa_cons (pv 6) pa_nil)))) (pw_or1 (pt_not (pt_val (pe_cal c__law_reads hr passL (pa_cons (pv 10) pa_nil)))))))
          (pss_one (ps_ret pe_bl))
          pss_nil)
        (pss_one (ps_if (PW.pt (pw_or (pt_not (pt_val (pe_cal c__law_reads hr passL (pa_cons (pe_cal c__law_spoilt hr passL (pa_cons (pv 1) (pa_cons (pv 10) pa_nil))) pa_nil)))) (pw_or1 (pt_not (pt_val (pe_cal c__law_reads hr passL (pa_cons (pv 6) pa_nil)))))))
          (pss_one (ps_ret pe_bl))
          pss_nil))))))
      (pss_one (ps_ret pe_bl))))))))))))))))), ?_⟩
  obtain ⟨s, ns, rfl, ha, hq⟩ := hs
  refine ⟨_, rfl, s, ns, rfl, ha, fun H1 p s1 np hp => ?_⟩
  refine ⟨_, rfl, p, _, rfl, hp, by decide, bd64 (by decide), fun H2 i t2 i0 i4 => ⟨_, _, rfl, rfl, _, rfl, by omega, by omega, fun D hD => ?_⟩⟩
  have hp2 := t2.2
  have nD := hp2.ne hD
  clear t2
  refine lc_range (n := (2 + i).toNat) (fun k H' => PoolAt H' p ∧ ∃ ys rs, H' D = some (.lst ys) ∧ Ones K H' ys rs ∧ ys.length = k) ⟨hp2.updL nD, [], [], upd_same, trivial, rfl⟩ ?_ ?_
  · rintro k H' hk ⟨hp', ys, rs, hy, ho, hl⟩
    refine ⟨rfl, _, rfl, p, rfl, hp', fun H3 q n d fl t3 o3 => ⟨ys, t3.1 _ _ nD hy, small_lt (by omega), t3.2.updL nD, _, rs ++ [(n, d, fl)], upd_same, ?_, by simp [hl]⟩⟩
    exact ((ho.pool hp' t3).snoc o3).updL (t3.1 _ _ nD hy)
  rintro H3 ⟨hp3, ys, rs, hy3, ho3, hl⟩
  clear hp2 hp hD
  obtain ⟨y0, n0, d0, f0, e0, h0⟩ := ho3.at (i := 0) (by omega) (by omega)
  refine ⟨_, rfl, .inl ⟨rfl, _, SqL.of hy3⟩, _, rfl, _, rfl, D, _, _, _, rfl, rfl, SqL.of hy3, e0, p, y0, n0, d0, f0, rfl, hp3, h0, fun H4 q n d fl t4 o4 => ?_⟩
  refine ⟨D, ys, _, rfl, rfl, t4.1 _ _ nD hy3, small_lt (by omega), ?_⟩
  have hp5 := t4.2.updL (o := .lst (ys ++ [.ref q])) nD
  have ho5 := ((ho3.pool hp3 t4).snoc (r := (n, d, fl)) o4).updL (zs' := ys ++ [.ref q]) (t4.1 _ _ nD hy3)
  have hy5 : (upd H4 D (.lst (ys ++ [.ref q]))) D = some (.lst (ys ++ [.ref q])) := upd_same
  have hl5 : (ys ++ [V.ref q]).length = (2 + i).toNat + 1 := by simp [hl]
  clear hp3 hy3 ho3 o4 h0 e0
  generalize (upd H4 D (.lst (ys ++ [.ref q]))) = H5 at *
  generalize ys ++ [.ref q] = zs at *
  generalize rs ++ [(n, d, fl)] = us at *
  clear t4 hl
  refine ⟨_, rfl, D, zs, rfl, .inl (SqL.of hy5), _, rfl, by omega, by omega, for_range (n := zs.length) (fun k σ H' => Same H5 H' ∧ ∃ r3 r4 : Option V, σ = [some (.ref s), some (.ref p), some (.ref D), r3, r4, none, none, none, none, none, none]) ⟨Same.refl _, _, _, rfl⟩ ?_ ?_⟩
  · rintro k σ H' hk ⟨S, r3, r4, rfl⟩
    have hoS := ho5.same S
    have hD := S _ _ hy5
    obtain ⟨a, n1, d1, f1, e1, h1⟩ := hoS.at (i := 0 + (k : Int)) (by omega) (by omega)
    obtain ⟨b, n2, d2, f2, e2, h2⟩ := hoS.at (i := 0 + (k : Int) - 1) (by omega) (by omega)
    have z1 := h1.2.1
    have b1 : Bd 45 (lowN n1 d1) := ((bd40 h1.2.2.1).lowN z1).mono (by decide)
    have b2 : Bd 45 (lowD n1 d1) := ((bd40 h1.2.2.2.1).lowD z1).mono (by decide)
    refine ⟨_, rfl, _, rfl, D, _, _, _, rfl, rfl, SqL.of hD, e1, _, rfl, a, n1, d1, f1, rfl, h1, fun H6 s6 => ⟨_, rfl, iteF ?_⟩⟩
    refine ⟨_, rfl, _, rfl, _, rfl, _, _, rfl, rfl, D, _, _, _, rfl, rfl, SqL.of (s6 _ _ hD), e2, a, b, n1, d1, n2, d2, f1, f2, rfl, h1.same s6, h2.same s6, fun H7 s7 => ⟨_, rfl, iteF ?_⟩⟩
    have S7 := s6.trans s7
    refine ⟨_, rfl, _, rfl, a, a, n1, d1, n1, d1, f1, f1, rfl, h1.same S7, h1.same S7, fun H8 s8 => ⟨_, rfl, iteF ?_⟩⟩
    have S8 := S7.trans s8
    have h18 := h1.same S8
    refine ⟨_, rfl, a, _, _, _, rfl, rfl, h18.1, atI_nat (j := 0) rfl, _, rfl, a, _, _, _, rfl, rfl, h18.1, atI_nat (j := 1) rfl, n1, d1, rfl, z1, b1000 h1.2.2.2.1, fun t ht => ?_⟩
    refine ⟨t, _, _, rfl, SqT.of upd_same, b1, b2, _, rfl, txt_len b1 b2, fun H9 s9 => ⟨_, rfl, iteF ?_⟩⟩
    exact ⟨(S.trans (S8.trans (same_upd ht))).trans s9, _, _, rfl⟩
  rintro σ H6 ⟨s6, r3, r4, rfl⟩
  have z3 : ([V.int 0, V.int 1, V.bl true] : List V).length ≤ sizeLine := small_size (by decide)
  refine ⟨z3, fun q1 w1 => ⟨_, rfl, small_size (show 3 ≤ 1000 by decide), fun q2 w2 => ⟨small_size (show 3 ≤ 1000 by decide), fun q3 w3 => ⟨_, rfl, small_size (show 3 ≤ 1000 by decide), fun q4 w4 => ⟨small_size (show 4 ≤ 1000 by decide), fun l wl => ⟨l, rfl, ⟨_, SqL.of upd_same⟩, ?_⟩⟩⟩⟩⟩⟩
  have v1 := same_upd (o := .tup [.int 0, .int 1, .bl true]) w1
  have v2 := same_upd (o := .tup [.int 0, .int (-7), .bl false]) w2
  have v3 := same_upd (o := .tup [.int 6, .int 4, .bl false]) w3
  have v4 := same_upd (o := .tup [.int (-5), .int 1, .bl true]) w4
  have v5 := same_upd (o := .lst [.ref q1, .ref q2, .ref q3, .ref q4]) wl
  have x1 := (v2.trans (v3.trans (v4.trans v5))) _ _ (upd_same (o := .tup [.int 0, .int 1, .bl true]))
  have x2 := (v3.trans (v4.trans v5)) _ _ (upd_same (o := .tup [.int 0, .int (-7), .bl false]))
  have x3 := (v4.trans v5) _ _ (upd_same (o := .tup [.int 6, .int 4, .bl false]))
  have x4 := v5 _ _ (upd_same (o := .tup [.int (-5), .int 1, .bl true]))
  have S7 := s6.trans (v1.trans (v2.trans (v3.trans (v4.trans v5))))
  have x5 : _ = some (HO.lst [.ref q1, .ref q2, .ref q3, .ref q4]) := upd_same (H := upd (upd (upd (upd H6 q1 (.tup [.int 0, .int 1, .bl true])) q2 (.tup [.int 0, .int (-7), .bl false])) q3 (.tup [.int 6, .int 4, .bl false])) q4 (.tup [.int (-5), .int 1, .bl true])) (a := l)
  clear v1 v2 v3 v4 v5 w1 w2 w3 w4 wl s6
  generalize upd (upd (upd (upd (upd H6 q1 (.tup [.int 0, .int 1, .bl true])) q2 (.tup [.int 0, .int (-7), .bl false])) q3 (.tup [.int 6, .int 4, .bl false])) q4 (.tup [.int (-5), .int 1, .bl true])) l (.lst [.ref q1, .ref q2, .ref q3, .ref q4]) = H7 at *
  have y1 : One K H7 q1 0 1 true := ⟨SqT.of x1, by decide, l12s (by decide), l12s (by decide), fun _ => rfl⟩
  have y2 : One K H7 q2 0 (-7) false := ⟨SqT.of x2, by decide, l12s (by decide), l12s (by decide), fun z => nomatch z⟩
  have y3 : One K H7 q3 6 4 false := ⟨SqT.of x3, by decide, l12s (by decide), l12s (by decide), fun z => nomatch z⟩
  have y4 : One K H7 q4 (-5) 1 true := ⟨SqT.of x4, by decide, l12s (by decide), l12s (by decide), fun _ => rfl⟩
  have yy : Ones K H7 [.ref q1, .ref q2, .ref q3, .ref q4] [(0, 1, true), (0, -7, false), (6, 4, false), (-5, 1, true)] := ⟨⟨q1, rfl, y1⟩, ⟨q2, rfl, y2⟩, ⟨q3, rfl, y3⟩, ⟨q4, rfl, y4⟩, trivial⟩
  clear x1 x2 x3 x4 y1 y2 y3 y4
  refine for_list (K := K) (a := l) (xs := [.ref q1, .ref q2, .ref q3, .ref q4]) (fun k σ H' => Same H7 H' ∧ ∃ r5 : Option V, σ = [some (.ref s), some (.ref p), some (.ref D), r3, r4, r5, none, none, none, none, none]) ⟨Same.refl _, _, rfl⟩ ?_ ?_ ?_
  · rintro k σ H' _ ⟨S, _⟩
    exact S.seq (SqL.of x5)
  · rintro k v σ H' hv ⟨S, r5, rfl⟩
    obtain ⟨rr, a, _, rfl, h1⟩ := (yy.same S).get hv
    have hoS := (ho5.same S7).same S
    have hD := (S7.trans S) _ _ hy5
    obtain ⟨a0, n1, d1, f1, e1, h2⟩ := hoS.at (i := 0) (by omega) (by omega)
    obtain ⟨b, n2, d2, f2, e2, h3⟩ := hoS.at (i := 1) (by omega) (by omega)
    refine ⟨_, rfl, D, _, _, _, rfl, rfl, SqL.of hD, e1, _, rfl, a0, a, n1, d1, _, _, f1, _, rfl, h2, h1, fun H8 s8 => ⟨_, rfl, iteF ?_⟩⟩
    refine ⟨_, rfl, _, rfl, D, _, _, _, rfl, rfl, SqL.of (s8 _ _ hD), e2, a, b, _, _, n2, d2, _, f2, rfl, h1.same s8, h3.same s8, fun H9 s9 => ⟨_, rfl, iteF ?_⟩⟩
    exact ⟨(S.trans s8).trans s9, _, rfl⟩
  rintro σ H8 ⟨s8, r5, rfl⟩
  have S8 := S7.trans s8
  clear yy x5 s8 S7
  refine ⟨_, rfl, D, zs, us, rfl, SqL.of (S8 _ _ hy5), ho5.same S8, by omega, by omega, fun H9 s9 => ⟨_, rfl, iteF ?_⟩⟩
  refine fun H10 f s10 _ f10 => ⟨f, 0, 1, rfl, by decide, bd1, ?_, fun H11 s11 => ⟨_, rfl, iteF ?_⟩⟩
  · rw [(low_one 0).1, (low_one 0).2]
    exact f10
  have S11 := ((S8.trans s9).trans s10).trans s11
  have p11 := hp5.same S11
  clear hp5 S11 s9 s10 s11 S8 f10 hy5 ho5
  refine ⟨small_size (show 11 ≤ 1000 by decide), fun l wl => ⟨l, rfl, ⟨_, SqL.of upd_same⟩, for_list (K := K) (a := l) (xs := lawT.map V.str) (fun k σ H' => Same (upd H11 l (.lst (lawT.map V.str))) H' ∧ ∃ r6 : Option V, σ = [some (.ref s), some (.ref p), some (.ref D), r3, r4, r5, r6, none, none, none, none]) ⟨Same.refl _, _, rfl⟩ ?_ ?_ ?_⟩⟩
  · rintro k σ H' _ ⟨S, _⟩
    exact S.seq (SqL.of upd_same)
  · rintro k v σ H' hv ⟨S, r6, rfl⟩
    have hz : ∃ z : Str, v = .str z ∧ z.length ≤ 600 := by
      have hm := List.mem_of_getElem? hv
      obtain ⟨z, hz, rfl⟩ := List.mem_map.mp hm
      refine ⟨z, rfl, ?_⟩
      have all : ∀ z ∈ lawT, z.length ≤ 600 := by decide +kernel
      exact all z hz
    obtain ⟨z, rfl, hz⟩ := hz
    exact ⟨_, rfl, z, rfl, hz, fun H12 s12 => ⟨_, rfl, iteF ⟨S.trans s12, _, rfl⟩⟩⟩
  rintro σ H12 ⟨s12, r6, rfl⟩
  have p12 := (p11.same (same_upd wl)).same s12
  clear p11 s12 wl
  refine ⟨_, rfl, p, _, rfl, p12, by decide, bd64 (by decide), fun H13 i13 t13 a13 b13 => ?_⟩
  refine ⟨_, _, rfl, rfl, _, rfl, p, _, rfl, t13.2, by decide, bd64 (by decide), fun H14 i14 t14 a14 b14 => ?_⟩
  have p14 := t14.2
  clear t13 t14 p12
  refine ⟨_, _, rfl, rfl, _, rfl, _, _, rfl, rfl, ?_⟩
  obtain ⟨tp, etp, c1, c2⟩ : ∃ x : Int, x = 1 + i13 ∧ 1 ≤ x ∧ x ≤ 9 := ⟨_, rfl, by omega, by omega⟩
  obtain ⟨de, ede, c3, c4⟩ : ∃ x : Int, x = 2 + i14 ∧ 2 ≤ x ∧ x ≤ 10 := ⟨_, rfl, by omega, by omega⟩
  dsimp only
  rw [← etp, ← ede]
  refine ⟨_, rfl, _, rfl, small_size (show 3 ≤ 1000 by decide), fun q5 w5 => ⟨_, rfl, _, rfl, small_size (show 3 ≤ 1000 by decide), fun q6 w6 => ⟨_, rfl, _, rfl, _, _, rfl, rfl, _, rfl, small_size (show 3 ≤ 1000 by decide), fun q7 w7 => ⟨small_size (show 3 ≤ 1000 by decide), fun m wm => ?_⟩⟩⟩⟩
  dsimp only at w6 w7 wm ⊢
  have v1 := same_upd (o := .tup [.int tp, .int de, .bl false]) w5
  have v2 := same_upd (o := .tup [.int tp, .int (de + 1), .bl false]) w6
  have v3 := same_upd (o := .tup [.int (tp + de), .int de, .bl false]) w7
  have v4 := same_upd (o := .lst [.ref q5, .ref q6, .ref q7]) wm
  have x1 := (v2.trans (v3.trans v4)) _ _ (upd_same (o := .tup [.int tp, .int de, .bl false]))
  have x2 := (v3.trans v4) _ _ (upd_same (o := .tup [.int tp, .int (de + 1), .bl false]))
  have x3 := v4 _ _ (upd_same (o := .tup [.int (tp + de), .int de, .bl false]))
  have S7 := v1.trans (v2.trans (v3.trans v4))
  have x5 : _ = some (HO.lst [.ref q5, .ref q6, .ref q7]) := upd_same (H := upd (upd (upd H14 q5 (.tup [.int tp, .int de, .bl false])) q6 (.tup [.int tp, .int (de + 1), .bl false])) q7 (.tup [.int (tp + de), .int de, .bl false])) (a := m)
  clear v1 v2 v3 v4 w5 w6 w7 wm
  generalize upd (upd (upd (upd H14 q5 (.tup [.int tp, .int de, .bl false])) q6 (.tup [.int tp, .int (de + 1), .bl false])) q7 (.tup [.int (tp + de), .int de, .bl false])) m (.lst [.ref q5, .ref q6, .ref q7]) = H15 at *
  have yy : Ones K H15 [.ref q5, .ref q6, .ref q7] [(tp, de, false), (tp, de + 1, false), (tp + de, de, false)] := ⟨⟨q5, rfl, SqT.of x1, by simp only; omega, l12s (by simp only; omega), l12s (by simp only; omega), fun z => nomatch z⟩, ⟨q6, rfl, SqT.of x2, by simp only; omega, l12s (by simp only; omega), l12s (by simp only; omega), fun z => nomatch z⟩, ⟨q7, rfl, SqT.of x3, by simp only; omega, l12s (by simp only; omega), l12s (by simp only; omega), fun z => nomatch z⟩, trivial⟩
  have p15 := p14.same S7
  clear p14 S7 x1 x2 x3
  refine ⟨_, rfl, by decide, by decide, for_range (n := 3) (fun k σ H' => Same H15 H' ∧ ∃ r3 : Option V, σ = [some (.ref s), some (.ref p), some (.ref D), r3, r4, r5, r6, some (.int tp), some (.int de), some (.int (de + 1)), some (.ref m)]) ⟨Same.refl _, _, rfl⟩ ?_ ?_⟩
  · rintro k σ H' hk ⟨S, r3, rfl⟩
    have hm := S _ _ x5
    have l3 : ([V.ref q5, V.ref q6, V.ref q7] : List V).length = 3 := rfl
    obtain ⟨a, n1, d1, f1, e1, h1⟩ := (yy.same S).at (i := 0 + (k : Int)) (by omega) (by omega)
    obtain ⟨b, n2, d2, f2, e2, h2⟩ := (yy.same S).at (i := 0 + (k : Int) - 1) (by omega) (by omega)
    exact ⟨_, rfl, _, rfl, m, _, _, _, rfl, rfl, SqL.of hm, e1, _, rfl, _, rfl, _, _, rfl, rfl, m, _, _, _, rfl, rfl, SqL.of hm, e2, a, b, n1, d1, n2, d2, f1, f2, rfl, h1, h2, fun H16 s16 => ⟨_, rfl, iteF ⟨S.trans s16, _, rfl⟩⟩⟩
  rintro σ H16 ⟨s16, r3', rfl⟩
  have p16 := p15.same s16
  clear yy x5 p15 s16
  have cp12 : CPow 10 12 := ⟨by decide, by decide, by decide⟩
  have bm : Bd 9000 ((2 : Int) * 10 ^ (12 : Int).toNat + 1) := bd64 (by decide)
  refine ⟨_, rfl, _, _, rfl, rfl, cp12, _, _, rfl, rfl, Bd.mulW (a := 2) (b := 60) (by unfold Bd; decide) (by unfold Bd; decide), _, _, rfl, rfl, p, _, rfl, p16, by decide, bm, fun H17 i17 t17 _ _ => ?_⟩
  refine ⟨_, _, rfl, rfl, cp12, _, _, rfl, rfl, _, rfl, _, rfl, p, _, rfl, t17.2, by decide, bd64 (by decide), fun H18 i18 t18 _ _ => ?_⟩
  refine ⟨_, _, rfl, rfl, _, rfl, p, rfl, t18.2, fun H19 z t19 hz => ?_⟩
  refine ⟨_, _, z, rfl, by omega, fun H20 s20 => ⟨_, rfl, iteF ?_⟩⟩
  have p20 := t19.2.same s20
  clear t19 t18 t17 s20 p16
  refine ⟨_, rfl, by decide, by decide, for_range (n := 3) (fun k σ H' => PoolAt H' p ∧ ∃ r3 r6 r10 : Option V, σ = [some (.ref s), some (.ref p), some (.ref D), r3, some (.int (i17 - 10 ^ (12 : Int).toNat)), r5, r6, some (.int tp), some (.int de), some (.int (de + 1)), r10]) ⟨p20, _, _, _, rfl⟩ ?_ ?_⟩
  · rintro k σ H' hk ⟨P0, r3, r6, r10, rfl⟩
    refine ⟨_, rfl, p, rfl, P0, fun H21 z1 t21 g1 => ?_⟩
    refine ⟨_, rfl, _, rfl, p, z1, rfl, t21.2, by omega, fun H22 z2 t22 g2 => ?_⟩
    refine ⟨_, rfl, z1, rfl, by omega, fun H23 s23 => ⟨_, rfl, iteF ⟨_, rfl, z2, rfl, by omega, fun H24 s24 => ⟨_, rfl, iteF ?_⟩⟩⟩⟩
    have P4 := (t22.2.same s23).same s24
    refine ⟨_, rfl, _, rfl, p, z2, rfl, P4, by omega, fun H25 z3 t25 g3 => ?_⟩
    refine ⟨z3, rfl, by omega, fun H26 s26 => ⟨_, rfl, iteF ⟨_, rfl, z1, rfl, by omega, fun H27 s27 => ⟨_, rfl, iteF ⟨(t25.2.same s26).same s27, _, _, _, rfl⟩⟩⟩⟩⟩
  rintro σ H21 _
  exact hq _
end
end K0
namespace K0
open PySem PySem.Spec PyProof.Rows L2 He HX KF
theorem calF {P : Program} {w : World} {K : PySem.W.Frag} {mg : Str → Option Value} {base : Heap} (h : HK K mg) (FI : FnOk P w K mg base (L2.CX P w) 3 (ma K (fC K) "__init__") (fdA K (ma K (fC K) "__init__")) ["self", "num", "den"] (sp_init K)) : CalF P w K mg base := by
  have F : FunD K "__init__" "Frac.__init__" (defArgs (inClass (top 41) 0)) (defBody (inClass (top 41) 0)) (defScope (inClass (top 41) 0)) [.int 0, .int 1] [] (ma K (fC K) "__init__") (fdA K (ma K (fC K) "__init__")) := h.says.funD 1
  have b2 := F.binds1 (ps := ["self", "num", "den"]) 3 2 (by simp) rfl (fun T kV doc pm an cdv ct us its hl hi => match us, its, hl, hi with | [_, _, _], [_, _], _, _ => ⟨_, rfl, rfl⟩)
  have b1 := F.binds1 (ps := ["self", "num", "den"]) 2 1 (by simp) rfl (fun T kV doc pm an cdv ct us its hl hi => match us, its, hl, hi with | [_, _], [_, _], _, _ => ⟨_, rfl, rfl⟩)
  have b0 := F.binds1 (ps := ["self", "num", "den"]) 1 0 (by simp) rfl (fun T kV doc pm an cdv ct us its hl hi => match us, its, hl, hi with | [_], [_, _], _, _ => ⟨_, rfl, rfl⟩)
  obtain ⟨ds, hd, hb⟩ := b2
  cases hd
  exact ⟨FI, h.glo "Frac", h.ff.mkr, hb, b1, b0⟩
theorem law_ok {w : World} {K : PySem.W.Frag} {mg : Str → Option Value} {base : Heap} (h : HK K mg) : Cal PR w K mg base 11 "law" ["script"] (sp_law K) := by
  have ff := h.ff
  have c_copied : Cal PR w K mg base 2 "copied" ["value"] (sp_copied K) := ok_copied (P := PR) (w := w) (base := base) h
  have x_DivisionByZero := ok_X_DivisionByZero (w := w) (base := base) (h := h) 
  have c_common_divisor := ok_common_divisor (P := PR) (w := w) (base := base) (h := h) 
  have FI := ok_Fracd_initd (P := PR) (w := w) (base := base) (h := h) (x_DivisionByZero := x_DivisionByZero) (c_common_divisor := c_common_divisor)
  have c_FR : CalF PR w K mg base := calF h FI
  have c__law_cells := ok__law_cells (P := PR) (w := w) (base := base) (h := h) 
  have c__law_draw := ok__law_draw (P := PR) (w := w) (base := base) (h := h) 
  have x_BadCount := ok_X_BadCount (w := w) (base := base) (h := h) 
  have x_BadLot := ok_X_BadLot (w := w) (base := base) (h := h) (c_copied := c_copied)
  have x_BadName := ok_X_BadName (w := w) (base := base) (h := h) 
  have x_BadPlace := ok_X_BadPlace (w := w) (base := base) (h := h) (c_copied := c_copied)
  have x_BadSign := ok_X_BadSign (w := w) (base := base) (h := h) 
  have x_BadSize := ok_X_BadSize (w := w) (base := base) (h := h) 
  have x_BadSizes := ok_X_BadSizes (w := w) (base := base) (h := h) 
  have x_BadText := ok_X_BadText (w := w) (base := base) (h := h) 
  have x_BadTie := ok_X_BadTie (w := w) (base := base) (h := h) 
  have x_BadWeight := ok_X_BadWeight (w := w) (base := base) (h := h) 
  have x_Barred := ok_X_Barred (w := w) (base := base) (h := h) (c_copied := c_copied)
  have x_Ended := ok_X_Ended (w := w) (base := base) (h := h) 
  have x_Flat := ok_X_Flat (w := w) (base := base) (h := h) (c_copied := c_copied)
  have x_Loose := ok_X_Loose (w := w) (base := base) (h := h) (c_copied := c_copied)
  have x_Mismatch := ok_X_Mismatch (w := w) (base := base) (h := h) 
  have x_NoBall := ok_X_NoBall (w := w) (base := base) (h := h) 
  have x_NoDeed := ok_X_NoDeed (w := w) (base := base) (h := h) 
  have x_NoMirror := ok_X_NoMirror (w := w) (base := base) (h := h) (c_copied := c_copied)
  have x_NotEven := ok_X_NotEven (w := w) (base := base) (h := h) (c_copied := c_copied)
  have x_NotPerfect := ok_X_NotPerfect (w := w) (base := base) (h := h) 
  have x_NotPositive := ok_X_NotPositive (w := w) (base := base) (h := h) (c_copied := c_copied)
  have x_NotSymmetric := ok_X_NotSymmetric (w := w) (base := base) (h := h) 
  have x_NotUnit := ok_X_NotUnit (w := w) (base := base) (h := h) 
  have x_NotWhole := ok_X_NotWhole (w := w) (base := base) (h := h) 
  have x_NothingToRedo := ok_X_NothingToRedo (w := w) (base := base) (h := h) 
  have x_NothingToUndo := ok_X_NothingToUndo (w := w) (base := base) (h := h) 
  have x_Singular := ok_X_Singular (w := w) (base := base) (h := h) (c_copied := c_copied)
  have x_Stopped := ok_X_Stopped (w := w) (base := base) (h := h) 
  have x_TooLarge := ok_X_TooLarge (w := w) (base := base) (h := h) 
  have x_TooMany := ok_X_TooMany (w := w) (base := base) (h := h) 
  have x_ZeroRow := ok_X_ZeroRow (w := w) (base := base) (h := h) 
  have c__law_kinds := ok__law_kinds (P := PR) (w := w) (base := base) (h := h) 
  have c__law_ours := ok__law_ours (P := PR) (w := w) (base := base) (h := h) 
  have c__law_errors := ok__law_errors (P := PR) (w := w) (base := base) (h := h) (x_BadCount := x_BadCount) (x_BadLot := x_BadLot) (x_BadName := x_BadName) (x_BadPlace := x_BadPlace) (x_BadSign := x_BadSign) (x_BadSize := x_BadSize) (x_BadSizes := x_BadSizes) (x_BadText := x_BadText) (x_BadTie := x_BadTie) (x_BadWeight := x_BadWeight) (x_Barred := x_Barred) (x_DivisionByZero := x_DivisionByZero) (x_Ended := x_Ended) (x_Flat := x_Flat) (x_Loose := x_Loose) (x_Mismatch := x_Mismatch) (x_NoBall := x_NoBall) (x_NoDeed := x_NoDeed) (x_NoMirror := x_NoMirror) (x_NotEven := x_NotEven) (x_NotPerfect := x_NotPerfect) (x_NotPositive := x_NotPositive) (x_NotSymmetric := x_NotSymmetric) (x_NotUnit := x_NotUnit) (x_NotWhole := x_NotWhole) (x_NothingToRedo := x_NothingToRedo) (x_NothingToUndo := x_NothingToUndo) (x_Singular := x_Singular) (x_Stopped := x_Stopped) (x_TooLarge := x_TooLarge) (x_TooMany := x_TooMany) (x_ZeroRow := x_ZeroRow) (c__law_kinds := c__law_kinds) (c__law_ours := c__law_ours)
  have c__law_common := ok__law_common (P := PR) (w := w) (base := base) (h := h) 
  have c__law_low := ok__law_low (P := PR) (w := w) (base := base) (h := h) (c__law_common := c__law_common)
  have c__law_whole := ok__law_whole (P := PR) (w := w) (base := base) (h := h) 
  have c__law_is := ok__law_is (P := PR) (w := w) (base := base) (h := h) (c__law_low := c__law_low) (c__law_whole := c__law_whole)
  have c__law_number := ok__law_number (P := PR) (w := w) (base := base) (h := h) (c__law_draw := c__law_draw)
  have c_Fracd_absd := ok_Fracd_absd (P := PR) (w := w) (base := base) (h := h) (c_FR := c_FR)
  have c_Fracd_boold := ok_Fracd_boold (P := PR) (w := w) (base := base) (h := h) 
  have c_Fracd_eqd := ok_Fracd_eqd (P := PR) (w := w) (base := base) (h := h) 
  have c_Fracd_negd := ok_Fracd_negd (P := PR) (w := w) (base := base) (h := h) (c_FR := c_FR)
  have c_digits_of := ok_digits_of (P := PR) (w := w) (base := base) (h := h) 
  have c_Fracd_strd := ok_Fracd_strd (P := PR) (w := w) (base := base) (h := h) (c_digits_of := c_digits_of)
  have c_Frac_floor := ok_Frac_floor (P := PR) (w := w) (base := base) (h := h) 
  have c_Frac_of := ok_Frac_of (P := PR) (w := w) (base := base) (h := h) (c_FR := c_FR)
  have c_Frac_rest := ok_Frac_rest (P := PR) (w := w) (base := base) (h := h) (c_FR := c_FR)
  have c__law_made := ok__law_made (P := PR) (w := w) (base := base) (h := h) (c_FR := c_FR)
  have c__law_text := ok__law_text (P := PR) (w := w) (base := base) (h := h) 
  have c__law_truth := ok__law_truth (P := PR) (w := w) (base := base) (h := h) 
  have c__law_one := ok__law_one (P := PR) (w := w) (base := base) (h := h) (ff := ff) (c_FR := c_FR) (c_Fracd_absd := c_Fracd_absd) (c_Fracd_boold := c_Fracd_boold) (c_Fracd_eqd := c_Fracd_eqd) (c_Fracd_negd := c_Fracd_negd) (c_Fracd_strd := c_Fracd_strd) (c_Frac_floor := c_Frac_floor) (c_Frac_of := c_Frac_of) (c_Frac_rest := c_Frac_rest) (c__law_is := c__law_is) (c__law_low := c__law_low) (c__law_made := c__law_made) (c__law_text := c__law_text) (c__law_truth := c__law_truth) (c__law_whole := c__law_whole)
  have c__law_digits := ok__law_digits (P := PR) (w := w) (base := base) (h := h) (c__law_draw := c__law_draw)
  have c__law_ratio := ok__law_ratio (P := PR) (w := w) (base := base) (h := h) (c__law_digits := c__law_digits) (c__law_draw := c__law_draw)
  have c_look_ratio := ok_look_ratio (P := PR) (w := w) (base := base) (h := h) (x_BadText := x_BadText) (c_common_divisor := c_common_divisor)
  have c_digits_end := ok_digits_end (P := PR) (w := w) (base := base) (h := h) (x_BadText := x_BadText)
  have c_whole_at := ok_whole_at (P := PR) (w := w) (base := base) (h := h) (c_digits_end := c_digits_end)
  have c_ratio_at := ok_ratio_at (P := PR) (w := w) (base := base) (h := h) (c_digits_end := c_digits_end) (c_whole_at := c_whole_at)
  have c_Frac_read := ok_Frac_read (P := PR) (w := w) (base := base) (h := h) (c_FR := c_FR) (x_BadText := x_BadText) (c_look_ratio := c_look_ratio) (c_ratio_at := c_ratio_at)
  have c__law_scan := ok__law_scan (P := PR) (w := w) (base := base) (h := h) 
  have c__law_reads := ok__law_reads (P := PR) (w := w) (base := base) (h := h) (c_Frac_read := c_Frac_read) (c__law_common := c__law_common) (c__law_is := c__law_is) (c__law_ours := c__law_ours) (c__law_scan := c__law_scan) (c__law_whole := c__law_whole)
  have c__law_spoilt := ok__law_spoilt (P := PR) (w := w) (base := base) (h := h) (c__law_draw := c__law_draw)
  have c_to_wholes := ok_to_wholes (P := PR) (w := w) (base := base) (h := h) (c_common_divisor := c_common_divisor)
  have c_Frac_sum_of := ok_Frac_sum_of (P := PR) (w := w) (base := base) (h := h) (c_FR := c_FR) (c_to_wholes := c_to_wholes)
  have c__law_plus := ok__law_plus (P := PR) (w := w) (base := base) (h := h) (c__law_low := c__law_low)
  have c__law_still := ok__law_still (P := PR) (w := w) (base := base) (h := h) (c__law_is := c__law_is) (c__law_whole := c__law_whole)
  have c__law_sums := ok__law_sums (P := PR) (w := w) (base := base) (h := h) (c_FR := c_FR) (c_Frac_sum_of := c_Frac_sum_of) (c__law_is := c__law_is) (c__law_made := c__law_made) (c__law_plus := c__law_plus) (c__law_still := c__law_still)
  have c__law_twin := ok__law_twin (P := PR) (w := w) (base := base) (h := h) (c__law_draw := c__law_draw)
  have c_num_den := ok_num_den (P := PR) (w := w) (base := base) (h := h) 
  have c_Fracd_addd := ok_Fracd_addd (P := PR) (w := w) (base := base) (h := h) (c_FR := c_FR) (c_num_den := c_num_den)
  have c_Fracd_muld := ok_Fracd_muld (P := PR) (w := w) (base := base) (h := h) (c_FR := c_FR) (c_num_den := c_num_den)
  have c_Fracd_subd := ok_Fracd_subd (P := PR) (w := w) (base := base) (h := h) (c_FR := c_FR) (c_num_den := c_num_den)
  have c_Frac_compare := ok_Frac_compare (P := PR) (w := w) (base := base) (h := h) (c_num_den := c_num_den)
  have c_Fracd_floordivd := ok_Fracd_floordivd (P := PR) (w := w) (base := base) (h := h) (x_DivisionByZero := x_DivisionByZero) (c_num_den := c_num_den)
  have c_Fracd_modd := ok_Fracd_modd (P := PR) (w := w) (base := base) (h := h) (c_FR := c_FR) (x_DivisionByZero := x_DivisionByZero) (c_num_den := c_num_den)
  have c_Frac_over := ok_Frac_over (P := PR) (w := w) (base := base) (h := h) (c_FR := c_FR) (x_DivisionByZero := x_DivisionByZero) (c_num_den := c_num_den)
  have c__law_refused := ok__law_refused (P := PR) (w := w) (base := base) (h := h) (ff := ff) (c_FR := c_FR) (c_Fracd_floordivd := c_Fracd_floordivd) (c_Fracd_modd := c_Fracd_modd) (c_Frac_over := c_Frac_over) (c__law_ours := c__law_ours)
  have c__law_divided := ok__law_divided (P := PR) (w := w) (base := base) (h := h) (ff := ff) (c_Fracd_floordivd := c_Fracd_floordivd) (c_Fracd_modd := c_Fracd_modd) (c_Frac_over := c_Frac_over) (c__law_is := c__law_is) (c__law_refused := c__law_refused) (c__law_whole := c__law_whole)
  have c__law_two := ok__law_two (P := PR) (w := w) (base := base) (h := h) (ff := ff) (c_FR := c_FR) (c_Fracd_addd := c_Fracd_addd) (c_Fracd_eqd := c_Fracd_eqd) (c_Fracd_muld := c_Fracd_muld) (c_Fracd_subd := c_Fracd_subd) (c_Frac_compare := c_Frac_compare) (c__law_divided := c__law_divided) (c__law_is := c__law_is) (c__law_made := c__law_made) (c__law_still := c__law_still) (c__law_truth := c__law_truth) (c__law_whole := c__law_whole)
  have c_law := ok_law (P := PR) (w := w) (base := base) (h := h) (c_FR := c_FR) (c__law_cells := c__law_cells) (c__law_draw := c__law_draw) (c__law_errors := c__law_errors) (c__law_is := c__law_is) (c__law_low := c__law_low) (c__law_number := c__law_number) (c__law_one := c__law_one) (c__law_ratio := c__law_ratio) (c__law_reads := c__law_reads) (c__law_spoilt := c__law_spoilt) (c__law_sums := c__law_sums) (c__law_text := c__law_text) (c__law_twin := c__law_twin) (c__law_two := c__law_two)
  exact c_law
/-- a law: F gives the written part, the function object, the promise over every base -/
theorem walk_ofEX {l : PySem.W.OpenLaw} {n k : Nat} {q : Program} {loose : List Str} {XP : (Str → Option Value) → Heap → Prop} {YP : World → Heap → Prop} {d : DefRec} {CX : World → CXT} {x : Str}
    (hn : l.most = some n) (hn2 : n ≤ sizeLine) (hdf : d.params.defaults = []) (hr : Room k callerA)
    (F : ∀ (w : World) (mg : Str → Option Value) (fa : Addr) (h : Heap), YP w h → h.Ns mainGlobals mg → mg d.name = some (.ref fa) →
      ∃ (K : PySem.W.Frag) (fd : FuncData) (sp : Sp), K.In h ∧ (∀ (s : Shared) (u : Value), BindsTo s fd ⟨[u], []⟩ [(x, u)]) ∧
        (∀ (H : Hp) (a : Addr) (ns : List Int), ns.length ≤ n → Only H → SqL K H a (ns.map V.int) → sp [.ref a] H (fun v _ => v = .bl true) fun _ _ _ => False) ∧
        ∀ base : Heap, K.In base → base.Ns mainGlobals mg → FnOk l.prog w K mg base (CX w) k fa fd [x] sp)
    (hCX : ∀ (w : World) (H : Hp) (s : Shared) (e : Value) (s' : Shared), CX w [] H s (fun _ _ _ => False) e s' → False) :
    PySem.W.WalkO q loose XP YP l.row.toRowW d [] (fun f vs => PySem.call f vs) := by
  refine Att.attach_call hn hdf fun w s₀ s₁ mg mb fa o pm cd doc a vs ns G Y ho hd hcd hmg hobj hints hlen hg => ?_
  obtain ⟨K, fd, sp, KX, hb, hsp, hF⟩ := F w mg fa _ Y G.T.g hmg
  exact law_call KX G.T.g G.T.b G.T.builtins G.T.nolimit hg hobj hints (Nat.le_trans hlen hn2) hr hF hb (fun H hO hS => hsp H a ns hlen hO hS) fun H e s' => hCX w H s₁ e s'
theorem facts {w : World} {K : PySem.W.Frag} {h : Heap} {mg : Str → Option Value} {f : Addr} (X : K.In h) (G : h.Ns mainGlobals mg) (hfa : mg ("law" : Str) = some (.ref f)) (c : SaysX K) :
    ∃ fd : FuncData, (∀ (s : Shared) (v : Value), BindsTo s fd ⟨[v], []⟩ [("script", v)]) ∧ ∀ base : Heap, K.In base → base.Ns mainGlobals mg → FnOk PR w K mg base (L2.CX PR w) 11 f fd ["script"] (sp_law K) := by
  have hk := hk_of c X G
  have e := hfa.symm.trans (hk.glo "law")
  cases e
  have F : FunD K "law" "law" (defArgs (top 77)) (defBody (top 77)) (defScope (top 77)) [] [] (ga K "law") (fdA K (ga K "law")) := hk.says.funD 53
  have b := FunD.bindsA (ps := ["script"]) F fun _ _ _ _ _ _ us hl => match us, hl with | [_], _ => rfl
  exact ⟨fdA K (ga K "law"), fun s v => b s [v] rfl, fun base _ _ => (law_ok hk).ok⟩
end K0
open PySem PySem.W PySem.Calls PyProof.Rows
theorem PySem.Challenge.cw_leastrows_k00_fracs_holds : PySem.Challenge.rw_leastrows_k00_fracs.Holds := by
  w_on; o_law
  refine HandSHeadRun.head_any (r := OpenLaw.row PySem.Challenge.rw_leastrows_k00_fracs) (q := view (OpenLaw.row PySem.Challenge.rw_leastrows_k00_fracs).prog [77]) (H := K0.hk) (ob := K0.ob) (M := 20000) (loose := K0.looseN) (d := HandSHeadRun.topDef (OpenLaw.row PySem.Challenge.rw_leastrows_k00_fracs).prog 77) (kwd := []) K0.ob_eq
    (by kernel_rfl) (fun s => by kernel_rfl) K0.run (by kernel_rfl) (by kernel_rfl) (by kernel_rfl) (by rfl) (by first | assumption | decide +kernel) (by decide +kernel) ⟨rfl, rfl, rfl, rfl, rfl, by decide +kernel⟩ ?hw ?hc
  case hw => w_witness2
  case hc =>
    refine K0.walk_ofEX (l := PySem.Challenge.rw_leastrows_k00_fracs) (n := 63) (k := 11) (x := "script") (CX := fun w => L2.CX K0.PR w) rfl (by decide) (by kernel_rfl) ⟨rfl, by decide, by decide⟩ ?F (fun w H s e s' z => ?CXf)
    case CXf =>
      obtain ⟨_, _, _, _, _, _, _, _, _, _, _, _, z⟩ := z
      exact z
    case F =>
    intro w mg fa h Y G hmg0
    obtain ⟨K, KX, c⟩ := Y
    have hmg : mg ("law" : PySem.Str) = some (.ref fa) := by
      have e : (HandSHeadRun.topDef (OpenLaw.row PySem.Challenge.rw_leastrows_k00_fracs).prog 77).name = ("law" : PySem.Str) := by kernel_rfl
      rw [← e]
      exact hmg0
    obtain ⟨fd, hb, hF⟩ := K0.facts (w := w) KX G hmg c
    exact ⟨K, fd, K0.sp_law K, KX, hb, fun H a ns hl _ hS => ⟨a, ns, rfl, hS, fun _ => rfl⟩, hF⟩
