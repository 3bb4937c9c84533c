import PyProof.Rows.All
import Wide.All
import OpenK.AllK
import Wide.FinOn
import HandS.HotCalls
import PyProof.AssignAttr
import KE.KExcSuper
import HandS.ExcInit
import HandS.ForMost
import HandS.ForExc
import HandS.ExcCtx
import PyProof.ReprReads
import PyProof.EqLayable
import KE.KDictKeyed
import KE.KeyNested
import HandS.Style
import HandS.Deep
import HandS.IsInst
import HandS.Wide
import HandS.WideBits
import HandS.Conv
import HandS.Star
import HandS.SortInts
import HandS.SetFor
import HandS.Ends
import HandS.Defaults
import HandS.TupLen
import PyProof.ReprRoads
import HandS.Small
import KE.KExcIs
import HandS.ExcIs
import HandS.ExcField
import PyProof.ReprBulk
import HandS.ExcValue
import PyProof.StrBlock2
import PySem.Challenge.RW_goesnext_k84_errors_are_distinct
set_option linter.all false
set_option Elab.async false
set_option maxRecDepth 100000
set_option maxHeartbeats 4000000
/-! Vs: an own exception with a field, made: its __init__ says super().__init__(text), then self.f = f. -/
namespace Vs
open PySem PySem.W PySem.Calls PyProof.Rows PySem.HandSPX

/-- the text of such an __init__ -/
abbrev xiBody (fld msg : Str) (j : Nat) (p0 p1 p2 p3 p4 p5 p6 p7 p8 p9 : Pos) : List Stmt :=
  [.Expr (.Call (.Attribute (.Call (.Name "super" p0) [] [] p1) "__init__" p2) [.Constant (.str msg) j p3] [] p4) p5,
   .Assign [.Attribute (.Name "self" p6) fld p7] (.Name fld p8) p9]
/-- what the written part says of the class at C and its __init__ at fI -/
structure XCls (P : Program) (K : PySem.W.Frag) (C fI : Addr) (fld : Str) : Prop where
  cls : ∃ nm q N bs bm sn sub ab col dd k0 k1 k2 k3 k5, K.lookup C = some (excClassObj nm q C N bs bm true sn sub ab col dd k0 k1 k2 k3 k5 "ValueError.__new__") ∧ refsVE bm = true
  sa : findIn K (.ref C) "__setattr__" = some (some (.builtin "object.__setattr__"))
  no : findIn K (.ref C) fld = some none
  iC : findIn K (.ref C) "__init__" = some (some (.ref fI))
  tI : typeIn K (.ref fI) = some (.type "function")
  kC : keepIn K (.ref C) = true
  exC : subIn K (.ref C) (.type "BaseException") = some true
  veC : subIn K (.ref C) (.type "ValueError") = some true
  tyC : typeIn K (.ref C) = some (.type "type")
  sf : mroIn K C (.ref C) = some true
  opq : nsIn K cStatics "thirdparty.any" = some none
  sup : ks_superIn K C C "__init__" = some (some (.builtin "ValueError.__init__"))
  fn : ∃ (oc : Value) (od : Option Addr) (doc pm : Value) (an : Option Addr) (ct : Value) (osl : Array (Option Value)) (cc cda : Addr) (args : Arguments) (scope : Scope) (qual msg : Str) (j : Nat) (p0 p1 p2 p3 p4 p5 p6 p7 p8 p9 : Pos) (ar : Arg)
      (ccl : Value) (cdd : Option Addr) (vs : Array Value) (ccs : Array (Option Value)) (file : Str) (tf : Tok) (cl : Value) (cld : Option Addr) (csl : Array (Option Value)),
    K.lookup fI = some ⟨oc, od, .func (ksFn "__init__" qual args (xiBody fld msg j p0 p1 p2 p3 p4 p5 p6 p7 p8 p9) scope .none .none doc pm an (.ref cda) ct cc), osl⟩ ∧ codeIn K (.ref cda) qual = true ∧
    K.lookup cda = some ⟨ccl, cdd, .fields vs, ccs⟩ ∧ vs[2]? = some (.str file tf) ∧ ((P.main.file : Str) == file) = true ∧
    K.lookup cc = some ⟨cl, cld, .cell (some (.ref C)), csl⟩ ∧
    (args.posonlyargs ++ args.args).head? = some ar ∧ ar.arg = "self" ∧
    scope.names.lookup ("super" : Str) = some .globalImplicit ∧ scope.names.lookup ("__class__" : Str) = some .free ∧ scope.names.lookup ("self" : Str) = some .local ∧ scope.names.lookup fld = some .local ∧
    (∀ x ∈ scope.names, x.2 ≠ .cell) ∧ scope.kind = .function ∧ scope.isCoroutine = false ∧ scope.isGenerator = false ∧
    (∀ a b : Value, bindArgs (ksFn "__init__" qual args (xiBody fld msg j p0 p1 p2 p3 p4 p5 p6 p7 p8 p9) scope .none .none doc pm an (.ref cda) ct cc) ⟨[a, b], []⟩ = pure [(("self" : Str), a), (fld, b)]) ∧
    (fld == ("self" : Str)) = false ∧ (fld == ("__debug__" : Str)) = false ∧ (p2.endLine == p4.line) = true
  top : (P.main.scope.names.lookup ("super" : Str)).isSome = false

section
variable {prog : Program} {w : World} {A : Around} {E : Value → Shared → Prop} {R : Result → Shared → Prop} {s : Shared} {K : Frag} {mg mb : Str → Option Value} {C fI : Addr} {fld : Str}
abbrev xobj (C dx t1 : Addr) : Obj := { cls := .ref C, dict := some dx, data := .fields #[.ref t1, .none, .none, .none, .bool false, .none] }
theorem xm_init (T : XCls prog K C fI fld) {x t0 : Addr} {v : Value} (X : K.In s.heap) (hg : s.heap.Ns mainGlobals mg) (hmg : mg "super" = none) (hb : s.heap.Ns builtinsNs mb) (hmb : mb "super" = bootBuiltins "super") (hlim : s.heap.NoLimit)
    (hx : s.heap.get? x = some (excO C t0)) (hnx : K.lookup x = none) (hroom : A.depth < recursionLimit)
    (hq : ∀ h' tk dx t1, (∀ b o, b ≠ x → s.heap.get? b = some o → h'.get? b = some o) → h'.get? x = some (xobj C dx t1) → s.heap.objs.size ≤ dx → dx ≠ x → h'.Ns1 dx (fun y => if y = fld then some v else none) →
      R (.ok (.ret .none)) { s with heap := h', toks := tk }) :
    codeAny (model prog w) A (.call (.ref fI) ⟨[.ref x, v], []⟩) R s := by
  obtain ⟨nm, q, N, bs, bm, sn, sub, ab, col, dd, k0, k1, k2, k3, k5, hC, hbm⟩ := T.cls
  have hcl : clsIn K C = some { name := nm, bases := bs, mro := .ref C :: bm, ns := N, qualname := q, hasDict := true, slotNames := sn, subclasses := sub, abstract := ab, collection := col, hasDel := false } := by unfold clsIn; rw [hC] <;> rfl
  obtain ⟨oc, od, doc, pm, an, ct, osl, cc, cda, args, scope, qual, msg, j, p0, p1, p2, p3, p4, p5, p6, p7, p8, p9, ar, ccl, cdd, vs, ccs, file, tf, cl, cld, csl, hfI, hcd, hcda, hvs, hfile, hcell, har, hself, s1, s2, s3, s4, sc, sk, sco, sg, hbind, hfs, hfd, hline⟩ := T.fn
  refine ks_codeAny_call_defAt (fd := ksFn "__init__" qual args (xiBody fld msg j p0 p1 p2 p3 p4 p5 p6 p7 p8 p9) scope .none .none doc pm an (.ref cda) ct cc) (body := xiBody fld msg j p0 p1 p2 p3 p4 p5 p6 p7 p8 p9)
    (binds := [(("self" : Str), .ref x), (fld, v)]) hroom (X _ _ hfI) rfl hlim (codeRec_of X hcd) rfl (BindsTo.of_eq (hbind _ _)) sc (fun y hy => ?_) (fun h₁ hns k₁ => ?_) sco sg sk
  · rcases List.mem_cons.mp hy with rfl | hy
    · exact s3
    · rcases List.mem_cons.mp hy with rfl | hy
      · exact s4
      · cases hy
  have X₁ : K.In h₁ := fun a o e => k₁ a o (X a o e)
  have hx₁ := k₁ _ _ hx
  generalize hL : s.heap.objs.size = L at hns ⊢
  have look1 : ([(("self" : Str), Value.ref x), (fld, v)] : List (Str × Value)).reverse.lookup ("self" : Str) = some (Value.ref x) := by
    show ([(fld, v), (("self" : Str), Value.ref x)] : List (Str × Value)).lookup ("self" : Str) = _
    have : (("self" : Str) == fld) = false := by
      rw [Bool.eq_false_iff] at hfs ⊢
      intro z
      exact hfs (by rw [beq_iff_eq] at z ⊢; exact z.symm)
    simp [List.lookup, this]
  have look2 : ([(("self" : Str), Value.ref x), (fld, v)] : List (Str × Value)).reverse.lookup fld = some v := by
    show ([(fld, v), (("self" : Str), Value.ref x)] : List (Str × Value)).lookup fld = _
    simp [List.lookup]
  show PySem.wpAt _ _ (.func _ (ksEnv qual scope L fI (.ref cda) cc)) (execs _ (ksEnv qual scope L fI (.ref cda) cc)) _ _ _
  have hgk : h₁.Ns mainGlobals mg := hg.keeps k₁
  have hbk : h₁.Ns builtinsNs mb := hb.keeps k₁
  have ne : x ≠ C := fun z => by
    rw [z] at hnx
    rw [hC] at hnx
    cases hnx
  obtain ⟨hp, g, d, tk, os⟩ := s
  refine ks_wpAt_execs_cons (ks_wpAt_Expr_any ?_ ?hint ?hsw)
  case hint => show (scope.kind == .module && _) = false; rw [sk]; rfl
  case hsw => first | rfl | with_unfolding_all rfl
  refine ks_wpAt_MethodCall (pl := ?pl) ?_ ?he
  case pl => exact (do return (← importBound (.Call (.Name "super" p0) [] [] p1) (ksEnv qual scope L fI (.ref cda) cc)).getD true)
  case he =>
    show (attributeBase _ _ _ _ >>= fun ov => standAt p2.atName >>= fun _ => methodCall _ _ _ _ _ ov _ _ _) = _
    unfold methodCall methodCallPos
    simp only [hline, Bool.or_true, if_true, pure_bind]
    rfl
  refine ks_wpAt_super_base (env := ksEnv qual scope L fI (.ref cda) cc) s1 s2 rfl (f := fI) rfl (X₁ _ _ hfI) rfl har (cc := cda) rfl (X₁ _ _ hcda) rfl hvs hfile T.top ?_
  refine ks_loadName_global sk s1 (loadGlobal_builtin (env := ksEnv qual scope L fI (.ref cda) cc) hgk hmg hbk (hmb.trans (by rfl)) ⟨rfl, ?_⟩)
  refine wpAny_loadName_free sk s2 rfl ⟨_, X₁ _ _ hcell, rfl⟩ ?_
  rw [hself]
  refine wpAny_loadName_local sk s3 hns look1 ?_
  refine ks_wpAny_isType_cls (X₁ _ _ hC) rfl ⟨rfl, ?_⟩
  refine ks_wpAny_call_super (X₁ _ _ hC) rfl hx₁ rfl (fun c e => by cases e) (looks_mroIn X₁ T.sf) (fun h₂ e₂ k₂ => ?_)
  have X₂ : K.In h₂ := fun a o e => k₂ a o (X₁ a o e)
  have hx₂ := k₂ _ _ hx₁
  have I₂ : InstAt h₂ x (excO C t0) C none := ⟨hx₂, rfl, rfl, trivial⟩
  have hsup := T.sup
  unfold ks_superIn at hsup
  rw [hcl] at hsup
  refine kxs_getMethod kxs_ValueError (D := C) (x := x) (C := C) e₂ (looks_opaque X₂ T.opq) (l₀ := .ref C :: bm) ?_ rfl X₂ hsup (I₂.type.andThen (looks_subIn X₂ T.veC)) ne (by decide) ?_
  · exact fun A Q E s k q => wpAny_bind ((looks_clsIn X₂ hcl) A _ E s k (wpAny_pure q))
  show wpAny _ _ (callWith _ (.ref h₂.objs.size) [] (backTo p4 (starEach [.Constant (.str msg) j p3] _)) []) _ _ _
  refine kxs_callWith (i := "ValueError.__init__") (x := x) rfl ?_
  show wpAny _ _ (evalArgs _ true ((false, eval (.Constant (.str msg) j p3) (ksEnv qual scope L fI (.ref cda) cc)) :: []) []) _ _ _
  refine evalArgs_plain (spliced_cons (wpAny_Constant_str (spliced_nil ⟨Heap.get?_push_at rfl rfl, ?_⟩)))
  have hu : (h₂.push (kxs_mw "ValueError.__init__" x)).get? h₂.objs.size = some (kxs_mw "ValueError.__init__" x) := Heap.get?_push_at rfl rfl
  have he₃ : (h₂.push (kxs_mw "ValueError.__init__" x)).get? x = some (excO C t0) := Heap.get?_push_of_some _ hx₂
  have hC₃ : (h₂.push (kxs_mw "ValueError.__init__" x)).get? C = _ := Heap.get?_push_of_some _ (X₂ _ _ hC)
  refine wpAny_call (codeAny_of_tree ?_)
  show wpAny _ _ (callAny (.ref h₂.objs.size) ⟨[.str msg _], []⟩) _ _ _
  simp only [callAny]
  refine wpAny_bind (wpAny_load hu ?_)
  simp only [kxs_mw, show (Value.type "method-wrapper" == Value.type "method" || Value.type "method-wrapper" == Value.type "builtin_function_or_method" || Value.type "method-wrapper" == Value.type "method-wrapper") = true by decide, if_true]
  refine KFB.if_so (by decide) ?_
  refine wpAny_bind (check_bound_init F.excBase_ValueError.toExcCallFacts hC₃ he₃ rfl ?_)
  refine wpAny_bind (wpAny_pure (wpAny_pure ?_))
  refine ⟨plainId_quiet F.excBase_ValueError.init.plain _, codeAny_builtin F.excBase_ValueError.initEntry ?_⟩
  refine exc_init_tree (cls := .ref C) (t0 := t0) (dv := none) (c2 := .none) (c3 := .none) (b4 := .bool false) he₃ (by show 1 ≤ sizeLine; rw [sizeLine_eq]; omega) fun h₄ k₄ hx₄ _ => ?_
  have kk : ∀ b o, b ≠ x → h₁.get? b = some o → h₄.get? b = some o := fun b o hb e => k₄ b o hb (Heap.get?_push_of_some _ (k₂ b o e))
  have X₄ : K.In h₄ := fun a o e => kk a o (fun z => by rw [z, hnx] at e; cases e) (X₁ a o e)
  have hLx : L ≠ x := fun z => by
    have : x < hp.objs.size := Heap.lt_size hx
    have hL' : hp.objs.size = L := hL
    rw [hL', z] at this
    exact Nat.lt_irrefl _ this
  have hns₄ : h₄.Ns L (fun y => ([(("self" : Str), Value.ref x), (fld, v)] : List (Str × Value)).reverse.lookup y) := hns.at fun o q => kk L o hLx q
  refine PySem.wpAt_of_wpAny (wpAny_execs_cons (plainObj_wpAny_Assign_Attribute ?_))
  refine wpAny_Name (wpAny_loadName_local (env := ksEnv qual scope L fI (.ref cda) cc) sk s4 hns₄ look2 ?_) hfd
  refine wpAny_Name (wpAny_loadName_local (env := ksEnv qual scope L fI (.ref cda) cc) sk s3 hns₄ look1 ?_) (by decide)
  refine set_plain X₄ (ox := excO C (h₂.push (kxs_mw "ValueError.__init__" x)).objs.size) (od := none) ⟨hx₄, rfl, rfl, trivial⟩ T.sa ?_
  refine exc_osa X₄ hx₄ hcl (show refsVE (.ref C :: bm) = true from hbm) rfl T.no (fun h₅ tk₅ dx k₅ dn dne hx₅ hn₅ => ?_)
  refine wpAny_execs_nil ?_
  have z : L < h₄.objs.size := hns₄.lt
  exact hq h₅ tk₅ dx _ (fun b o hb e => k₅ b o hb (kk b o hb (k₁ b o e))) hx₅ (Nat.le_trans (Nat.le_of_lt (show hp.objs.size < h₄.objs.size from (show hp.objs.size = L from hL).symm ▸ z)) dn) dne hn₅
/-- a made exception of the class -/
structure XMade (h h' : Heap) (e C d : Addr) (fld : Str) (v : Value) : Prop where
  keep : ∀ b o, h.get? b = some o → h'.get? b = some o
  new : h.objs.size ≤ e
  obj : ∃ t1, h'.get? e = some (xobj C d t1)
  dbig : h.objs.size ≤ d
  dne : d ≠ e
  ns : h'.Ns1 d (fun y => if y = fld then some v else none)
theorem xm_made (T : XCls prog K C fI fld) {v : Value} (X : K.In s.heap) (hg : s.heap.Ns mainGlobals mg) (hmg : mg "super" = none) (hb : s.heap.Ns builtinsNs mb) (hmb : mb "super" = bootBuiltins "super") (hlim : s.heap.NoLimit) (hroom : A.depth + 1 < recursionLimit)
    (hq : ∀ h' tk e d, XMade s.heap h' e C d fld v → R (.ok (.ret (.ref e))) { s with heap := h', toks := tk }) :
    codeAny (model prog w) A (.call (.ref C) ⟨[v], []⟩) R s := by
  obtain ⟨nm, q, N, bs, bm, sn, sub, ab, col, dd, k0, k1, k2, k3, k5, hC, hbm⟩ := T.cls
  obtain ⟨hp, g, dr, tk, os⟩ := s
  have k : ∀ b o, hp.get? b = some o → ((hp.push (kdv_tup [v])).push (excO C hp.objs.size)).get? b = some o := fun b o e => Heap.get?_push_of_some _ (Heap.get?_push_of_some _ e)
  have hget : ((hp.push (kdv_tup [v])).push (excO C hp.objs.size)).get? (hp.objs.size + 1) = some (excO C hp.objs.size) := by heap_get
  have hnx : K.lookup (hp.objs.size + 1) = none := by
    cases e : K.lookup (hp.objs.size + 1) with
    | none => rfl
    | some o =>
      have z : hp.get? (hp.objs.size + 1) = some o := X _ _ e
      exact absurd (Nat.lt_of_succ_lt (Heap.lt_size z)) (Nat.lt_irrefl _)
  refine call_own F.excBase_ValueError (fun X => refsVE_contains X bm hbm) (X _ _ hC) (looks_findIn X T.iC) (fun self => bind_fn X self T.tI) (by show 1 ≤ sizeLine; rw [sizeLine_eq]; omega) ?_
  refine xm_init (s := ⟨(hp.push (kdv_tup [v])).push (excO C hp.objs.size), g, dr, tk, os⟩) T (X.keeps k) (hg.keeps k) hmg (hb.keeps k) hmb (hlim.keeps k) hget hnx ?_ fun h' tk' dx t1 k' hx dn dne hns => ?_
  · show A.depth + 1 < recursionLimit
    exact hroom
  · have old : ∀ b o, hp.get? b = some o → h'.get? b = some o := fun b o e => k' b o (Nat.ne_of_lt (Nat.lt_succ_of_lt (Heap.lt_size e))) (k b o e)
    have z : hp.objs.size + 1 + 1 ≤ dx := by
      first
        | (simpa only [Heap.size_push] using dn)
        | exact dn
        | (have q := dn; rw [Heap.size_push, Heap.size_push] at q; exact q)
    exact ⟨rfl, hq h' tk' (hp.objs.size + 1) dx ⟨old, Nat.le_succ _, ⟨t1, hx⟩, by show hp.objs.size ≤ dx; omega, dne, hns⟩⟩
end
end Vs
namespace Vs
open PySem PySem.Spec PyProof.Rows L2
theorem relO_x {v : V} {v' : Value} {fld : Str} (r : RelV v v') (f : Str) : RelO (List.lookup f [(fld, v)]) (if f = fld then some v' else none) := by
  by_cases hw : f = fld
  · subst hw
    rw [if_pos rfl]
    have q : List.lookup f [(f, v)] = some v := by simp [List.lookup]
    rw [q]
    exact r
  · rw [if_neg hw]
    have qw : (f == fld) = false := by simpa using hw
    have q2 : List.lookup f [(fld, v)] = none := by simp [List.lookup, qw]
    rw [q2]
    trivial
section
variable {X : Cx} {C fI : Addr} {fld : Str}
/-- C(e) -/
def tMkX (C : Addr) (fld : Str) (ta : TA) : L2.St → Hp → XK → Prop := fun σ H Q => ta σ H fun vs H1 => ∃ v, vs = [v] ∧ ∀ d, H1 d = none → Q (.ref C) (some d) (upd H1 d (.xd [(fld, v)]))
theorem pmk_x {x : Str} {a : Expr} {ta : TA} {p pos : Pos} {k : Nat} (T : XCls X.prog X.K C fI fld) (hr : Room k X.A) (ha : PA X [a] ta) (hg : Gl X x) (hm : X.mg x = some (.ref C)) (hsup : X.mg "super" = none) (hdb : (x == ("__debug__" : Str)) = false := by decide)
    (he : starEach (a :: []) X.env = (false, eval a X.env) :: starEach [] X.env := by rfl) (hpl : (backTo pos (starEach [] X.env)).any (·.1) = false := by rfl) :
    L2N.PMk X (.Call (.Name x p) [a] [] pos) (tMkX C fld ta) := by
  intro pins s σ H Q I h
  refine wpAny_Call_Name_kw (ld_glob I hg hm ?_ hdb)
  refine PySem.W.callWith_K (h₀ := X.base) I.ok.mod.kin T.kC (L2.thn (ha.run pos pins s σ H _ I h) fun us s1 hh => ?_) he hpl
  obtain ⟨vs, H1, I1, r1, v, ev, q1⟩ := hh
  subst ev
  refine ⟨I1.kIn, ?_⟩
  cases r1 with
  | cons rv rn =>
    rename_i v' us'
    cases rn
    show wpAny _ _ (call (.ref C) [v']) _ _ _
    have hlim := I1.nolimit
    obtain ⟨mb, hb1, hb2⟩ := I1.mod.blt
    have hgn := I1.mod.glob.keeps I1.bk
    have hbn := hb1.keeps I1.bk
    have hK := I1.kIn
    obtain ⟨hp, g, dr, tk, os⟩ := s1
    refine wpAny_call (xm_made T hK hgn hsup hbn (hb2 _ (by decide)) hlim (by have := hr.dp; omega) fun h' tk' e d M => ?_)
    show L2N.MkP X pins σ Q (.ref e) ⟨h', g, dr, tk', os⟩
    obtain ⟨t1, hoe⟩ := M.obj
    have hns := M.ns
    obtain ⟨G', g1, g2⟩ := restrict h' fun b => decide (b ≠ e)
    have gk : ∀ b, b ≠ e → G'.get? b = h'.get? b := fun b hb => g1 b (decide_eq_true hb)
    have ge : G'.get? e = none := g2 e (by simp)
    have old : ∀ b o, hp.get? b = some o → G'.get? b = some o := fun b o q => (gk b (Nat.ne_of_lt (Nat.lt_of_lt_of_le (Heap.lt_size q) M.new))).trans (M.keep b o q)
    have ob : ObjOk X.prog X.w (upd H1 d (.xd [(fld, v)])) G' d (.xd [(fld, v)]) :=
      ⟨_, hns.at (fun o q => (gk d M.dne).trans q), fun f => relO_x rv f⟩
    have J : Inv X pins σ (upd H1 d (.xd [(fld, v)])) ⟨G', g, dr, tk', os⟩ := I1.laid (t' := tk') old M.dbig ob
    refine ⟨e, _, _, ⟨G', g, dr, tk', os⟩, _, .ref C, some d, rfl, J, fun b o q => ?_, ge, hoe, ⟨rfl, rfl, fun vs z => ?_⟩, rfl, rfl, ?_, rfl, I1.bare, raises_own T.exC T.tyC, q1 d (I1.hok.fresh M.dbig)⟩
    · by_cases hb : b = e
      · have q' : G'.get? b = some o := q
        rw [hb, ge] at q'; cases q'
      · exact (gk b hb).symm.trans q
    · cases z
      rfl
    · rw [upd_ne (Ne.symm M.dne)]
      exact I1.hok.fresh M.new
end
end Vs
set_option maxHeartbeats 4000000
/-! own exceptions made by keyword, and with two fields -/

namespace PySem.HandSPX
open PySem PySem.Spec PyProof.Rows
section
variable {M : Model} {A : Around} {E : Value → Shared → Prop} {h : Heap} {g : Array GenState} {d : Drawn} {t : Nat} {os : OsState}
variable {nm q : Str} {C N : Addr} {bs bm bmB : List Value} {hdct : Bool} {sn : List Str} {sub : List Value} {ab : Bool} {col : Option Bool} {dd : Option Addr} {k0 k1 k2 k3 k5 : Option Value} {B newId initId : String}
theorem check_new_ownK (F : ExcBaseFacts B newId initId bmB) (hT : ∀ X : String, bm.contains (.type X) = bmB.contains (.type X)) {rest : List Value} {kw : List (Str × Value)} {Q : Unit → Shared → Prop}
    (hC : h.get? C = some (excClassObj nm q C N bs bm hdct sn sub ab col dd k0 k1 k2 k3 k5 newId)) (hq : Q () ⟨h, g, d, t, os⟩) : wpAny M A (checkBuiltinCall newId ⟨.ref C :: rest, kw⟩) Q E ⟨h, g, d, t, os⟩ := by
  have hcont : (Value.ref C :: bm).contains (.type B) = true := by rw [List.contains_cons, hT, F.hasB, Bool.or_true]
  have hstar := F.noStar
  simp only [checkBuiltinCall, F.newKind, F.newSplit, F.newRow]
  repeat (first | refine wpAny_loadPart_at hC ?_ | (refine wpAny_isSubtype_exc hC ?_; rw [hcont]) | refine wpAny_staticBase_exc hC ?_ | refine wpAny_madeBy_exc hC ?_ | simp only [bne_self_eq_false, Bool.false_eq_true, if_false] | wp_step)
  exact hq
end
section
variable {prog : Program} {w : World} {A : Around} {E : Value → Shared → Prop} {R : Result → Shared → Prop} {h : Heap} {g : Array GenState} {d : Drawn} {t : Nat} {os : OsState}
variable {nm q : Str} {C N : Addr} {bs bm bmB : List Value} {hdct : Bool} {sn : List Str} {sub : List Value} {ab : Bool} {col : Option Bool} {dd : Option Addr} {k0 k1 k2 k3 k5 : Option Value} {B newId initId : String}

theorem new_ownK (F : ExcBaseFacts B newId initId bmB) (hT : ∀ X : String, bm.contains (.type X) = bmB.contains (.type X)) {rest : List Value} {kw : List (Str × Value)}
    (hC : h.get? C = some (excClassObj nm q C N bs bm hdct sn sub ab col dd k0 k1 k2 k3 k5 newId))
    (hq : R (.ok (.ret (.ref (h.objs.size + 1)))) ⟨(h.push { cls := .type "tuple", data := .seq rest.toArray }).push
      { cls := .ref C, data := .fields #[.ref h.objs.size, .none, .none, .none, .bool false, .none] }, g, d, t, os⟩) (hrest : rest.length ≤ sizeLine) :
    codeAny (model prog w) A (.builtin newId ⟨.ref C :: rest, kw⟩) R ⟨h, g, d, t, os⟩ := by
  have hends := F.ends
  have hcB : (Value.ref C :: bm).contains (.type B) = true := by rw [List.contains_cons, hT, F.hasB, Bool.or_true]
  have hcA : (Value.ref C :: bm).contains (.type "AttributeError") = false := by rw [List.contains_cons, hT, F.noAttr]; rfl
  have hcN : (Value.ref C :: bm).contains (.type "NameError") = false := by rw [List.contains_cons, hT, F.noName]; rfl
  refine codeAny_builtinAt F.entry ?_
  unfold Builtin.«BaseException.__new__»
  refine wpAt_bind ?_
  show wpAt _ _ _ (stack >>= _) _ _ _
  refine wpAt_bind (wpAt_stack fun p below => wpAt_of_wpAny ?_)
  wp_walk
  refine wpAt_of_wpAny ?_
  rw [F.owner]
  repeat (first | with_reducible refine wpAny_madeHere_exc F.canon hC ?_ | with_reducible refine wpAny_loadPart_at hC ?_ | (with_reducible refine wpAny_isSubtype_exc hC ?_; first | rw [hcB] | rw [hcA] | rw [hcN]) | wp_step)
  show R _ _
  rw [Heap.size_push]
  exact hq

theorem type_call_ownK (F : ExcBaseFacts B newId initId bmB) (hT : ∀ X : String, bm.contains (.type X) = bmB.contains (.type X)) {rest : List Value} {kw : List (Str × Value)} {fI : Addr} {Q : Fin → Shared → Prop}
    (hC : h.get? C = some (excClassObj nm q C N bs bm hdct sn sub ab col dd k0 k1 k2 k3 k5 newId))
    (hi : W.Looks (model prog w) h (typeLookup (.ref C) "__init__") (some (.ref fI))) (hb : ∀ self, W.Looks (model prog w) h (bindSpecial (.ref fI) self) (.ref fI, [self])) (hrest : rest.length ≤ sizeLine) (hkw : kw.length ≤ sizeLine)
    (hq : codeAny (model prog w) A (.call (.ref fI) ⟨.ref (h.objs.size + 1) :: rest, kw⟩)
      (fun r s' => match r with | .ok (.ret v) => v = .none ∧ Q (.done (.ret (.ref (h.objs.size + 1)))) s' | .ok _ => False | .error e => E e s')
      ⟨(h.push (W.kdv_tup rest)).push (excO C h.objs.size), g, d, t, os⟩) :
    wpAny (model prog w) A (Builtin.«type.__call__» ⟨.ref C :: rest, kw⟩) Q E ⟨h, g, d, t, os⟩ := by
  repeat (first | with_reducible refine wpAny_loadPart_at hC ?_ | with_reducible refine wpAny_madeBy_exc hC ?_ | wp_step)
  refine codeAny_call_builtin_code (Code.quiet_builtin _ F.quiet) (check_new_ownK F hT hC ?_)
  refine new_ownK F hT hC ?_ hrest
  show wpAny _ _ _ _ _ _
  have k : ∀ b o, h.get? b = some o → ((h.push (W.kdv_tup rest)).push (excO C h.objs.size)).get? b = some o := fun b o e => Heap.get?_push_of_some _ (Heap.get?_push_of_some _ e)
  have hC₁ := k _ _ hC
  have hget : ((h.push (W.kdv_tup rest)).push (excO C h.objs.size)).get? (h.objs.size + 1) = some (excO C h.objs.size) := by heap_get
  have hcC : (Value.ref C :: bm).contains (.ref C) = true := by simp
  have i1 := hi.keeps k
  have b1 := (hb (.ref (h.objs.size + 1))).keeps k
  unfold isInstance
  repeat (first | with_reducible refine wpAny_loadPart_at hget ?_ | (with_reducible refine wpAny_isSubtype_exc hC₁ ?_; rw [hcC]) | wp_step)
  show wpAny _ _ (typeLookup (.ref C) _) _ _ _
  refine i1.at ?_
  refine wpAny_holding (wpAny_bind (b1.at ?_))
  refine wpAny_bind (wpAny_call (codeAny_mono hq fun r s' z => ?_))
  rcases r with e | (v | _ | _ | _) <;> first | exact z | exact z.elim | skip
  obtain ⟨rfl, z⟩ := z
  first
    | exact wpAny_pure (wpAny_pure z)
    | (wp_walk; exact z)

theorem call_ownK (F : ExcBaseFacts B newId initId bmB) (hT : ∀ X : String, bm.contains (.type X) = bmB.contains (.type X)) {rest : List Value} {kw : List (Str × Value)} {fI : Addr}
    (hC : h.get? C = some (excClassObj nm q C N bs bm hdct sn sub ab col dd k0 k1 k2 k3 k5 newId))
    (hi : W.Looks (model prog w) h (typeLookup (.ref C) "__init__") (some (.ref fI))) (hb : ∀ self, W.Looks (model prog w) h (bindSpecial (.ref fI) self) (.ref fI, [self])) (hrest : rest.length ≤ sizeLine) (hkw : kw.length ≤ sizeLine)
    (hq : codeAny (model prog w) (A.under (.builtin "type.__call__" ⟨.ref C :: rest, kw⟩)) (.call (.ref fI) ⟨.ref (h.objs.size + 1) :: rest, kw⟩) (W.InitBack (h.objs.size + 1) R)
      ⟨(h.push (W.kdv_tup rest)).push (excO C h.objs.size), g, d, t, os⟩) :
    codeAny (model prog w) A (.call (.ref C) ⟨rest, kw⟩) R ⟨h, g, d, t, os⟩ := by
  have f1 := tc_lookup
  have f2 := tc_bind (.ref C)
  have hTy : (⟨h, g, d, t, os⟩ : Shared).TypeIs (.ref C) "type" := ⟨_, hC, rfl⟩
  refine codeAny_of_tree ?_
  show wpAny _ _ (callAny (.ref C) _) _ _ _
  repeat (any_goals (first | assumption | with_reducible refine wpAny_loadPart_at hC ?_ | wp_step))
  refine ⟨rfl, ?_⟩
  refine codeAny_call_builtin_at (Code.quiet_builtin _ (by decide +kernel)) entry_typeCall (wpAny_check_type_call_sub hC (type_call_ownK F hT hC hi hb hrest hkw ?_))
  refine codeAny_mono hq fun r s' z => ?_
  rcases r with e | (v | _ | _ | _) <;> exact z
end
end PySem.HandSPX

namespace Vs
open PySem PySem.W PySem.Calls PyProof.Rows PySem.HandSPX
/-- how __init__ binds one keyword -/
def XKw (K : Frag) (fI : Addr) (fld : Str) : Prop := ∀ oc od fd osl, K.lookup fI = some ⟨oc, od, .func fd, osl⟩ → ∀ a b : Value, bindArgs fd ⟨[a], [(fld, b)]⟩ = pure [(("self" : Str), a), (fld, b)]
section
variable {prog : Program} {w : World} {A : Around} {E : Value → Shared → Prop} {R : Result → Shared → Prop} {s : Shared} {K : Frag} {mg mb : Str → Option Value} {C fI : Addr} {fld : Str}

theorem xk_init (T : XCls prog K C fI fld) (hK : XKw K fI fld) {x t0 : Addr} {v : Value} (X : K.In s.heap) (hg : s.heap.Ns mainGlobals mg) (hmg : mg "super" = none) (hb : s.heap.Ns builtinsNs mb) (hmb : mb "super" = bootBuiltins "super") (hlim : s.heap.NoLimit)
    (hx : s.heap.get? x = some (excO C t0)) (hnx : K.lookup x = none) (hroom : A.depth < recursionLimit)
    (hq : ∀ h' tk dx t1, (∀ b o, b ≠ x → s.heap.get? b = some o → h'.get? b = some o) → h'.get? x = some (xobj C dx t1) → s.heap.objs.size ≤ dx → dx ≠ x → h'.Ns1 dx (fun y => if y = fld then some v else none) →
      R (.ok (.ret .none)) { s with heap := h', toks := tk }) :
    codeAny (model prog w) A (.call (.ref fI) ⟨[.ref x], [(fld, v)]⟩) R s := by
  obtain ⟨nm, q, N, bs, bm, sn, sub, ab, col, dd, k0, k1, k2, k3, k5, hC, hbm⟩ := T.cls
  have hcl : clsIn K C = some { name := nm, bases := bs, mro := .ref C :: bm, ns := N, qualname := q, hasDict := true, slotNames := sn, subclasses := sub, abstract := ab, collection := col, hasDel := false } := by unfold clsIn; rw [hC] <;> rfl
  obtain ⟨oc, od, doc, pm, an, ct, osl, cc, cda, args, scope, qual, msg, j, p0, p1, p2, p3, p4, p5, p6, p7, p8, p9, ar, ccl, cdd, vs, ccs, file, tf, cl, cld, csl, hfI, hcd, hcda, hvs, hfile, hcell, har, hself, s1, s2, s3, s4, sc, sk, sco, sg, hbind, hfs, hfd, hline⟩ := T.fn
  refine ks_codeAny_call_defAt (fd := ksFn "__init__" qual args (xiBody fld msg j p0 p1 p2 p3 p4 p5 p6 p7 p8 p9) scope .none .none doc pm an (.ref cda) ct cc) (body := xiBody fld msg j p0 p1 p2 p3 p4 p5 p6 p7 p8 p9)
    (binds := [(("self" : Str), .ref x), (fld, v)]) hroom (X _ _ hfI) rfl hlim (codeRec_of X hcd) rfl (BindsTo.of_eq (hK _ _ _ _ hfI _ _)) sc (fun y hy => ?_) (fun h₁ hns k₁ => ?_) sco sg sk
  · rcases List.mem_cons.mp hy with rfl | hy
    · exact s3
    · rcases List.mem_cons.mp hy with rfl | hy
      · exact s4
      · cases hy
  have X₁ : K.In h₁ := fun a o e => k₁ a o (X a o e)
  have hx₁ := k₁ _ _ hx
  generalize hL : s.heap.objs.size = L at hns ⊢
  have look1 : ([(("self" : Str), Value.ref x), (fld, v)] : List (Str × Value)).reverse.lookup ("self" : Str) = some (Value.ref x) := by
    show ([(fld, v), (("self" : Str), Value.ref x)] : List (Str × Value)).lookup ("self" : Str) = _
    have : (("self" : Str) == fld) = false := by
      rw [Bool.eq_false_iff] at hfs ⊢
      intro z
      exact hfs (by rw [beq_iff_eq] at z ⊢; exact z.symm)
    simp [List.lookup, this]
  have look2 : ([(("self" : Str), Value.ref x), (fld, v)] : List (Str × Value)).reverse.lookup fld = some v := by
    show ([(fld, v), (("self" : Str), Value.ref x)] : List (Str × Value)).lookup fld = _
    simp [List.lookup]
  show PySem.wpAt _ _ (.func _ (ksEnv qual scope L fI (.ref cda) cc)) (execs _ (ksEnv qual scope L fI (.ref cda) cc)) _ _ _
  have hgk : h₁.Ns mainGlobals mg := hg.keeps k₁
  have hbk : h₁.Ns builtinsNs mb := hb.keeps k₁
  have ne : x ≠ C := fun z => by
    rw [z] at hnx
    rw [hC] at hnx
    cases hnx
  obtain ⟨hp, g, d, tk, os⟩ := s
  refine ks_wpAt_execs_cons (ks_wpAt_Expr_any ?_ ?hint ?hsw)
  case hint => show (scope.kind == .module && _) = false; rw [sk]; rfl
  case hsw => first | rfl | with_unfolding_all rfl
  refine ks_wpAt_MethodCall (pl := ?pl) ?_ ?he
  case pl => exact (do return (← importBound (.Call (.Name "super" p0) [] [] p1) (ksEnv qual scope L fI (.ref cda) cc)).getD true)
  case he =>
    show (attributeBase _ _ _ _ >>= fun ov => standAt p2.atName >>= fun _ => methodCall _ _ _ _ _ ov _ _ _) = _
    unfold methodCall methodCallPos
    simp only [hline, Bool.or_true, if_true, pure_bind]
    rfl
  refine ks_wpAt_super_base (env := ksEnv qual scope L fI (.ref cda) cc) s1 s2 rfl (f := fI) rfl (X₁ _ _ hfI) rfl har (cc := cda) rfl (X₁ _ _ hcda) rfl hvs hfile T.top ?_
  refine ks_loadName_global sk s1 (loadGlobal_builtin (env := ksEnv qual scope L fI (.ref cda) cc) hgk hmg hbk (hmb.trans (by rfl)) ⟨rfl, ?_⟩)
  refine wpAny_loadName_free sk s2 rfl ⟨_, X₁ _ _ hcell, rfl⟩ ?_
  rw [hself]
  refine wpAny_loadName_local sk s3 hns look1 ?_
  refine ks_wpAny_isType_cls (X₁ _ _ hC) rfl ⟨rfl, ?_⟩
  refine ks_wpAny_call_super (X₁ _ _ hC) rfl hx₁ rfl (fun c e => by cases e) (looks_mroIn X₁ T.sf) (fun h₂ e₂ k₂ => ?_)
  have X₂ : K.In h₂ := fun a o e => k₂ a o (X₁ a o e)
  have hx₂ := k₂ _ _ hx₁
  have I₂ : InstAt h₂ x (excO C t0) C none := ⟨hx₂, rfl, rfl, trivial⟩
  have hsup := T.sup
  unfold ks_superIn at hsup
  rw [hcl] at hsup
  refine kxs_getMethod kxs_ValueError (D := C) (x := x) (C := C) e₂ (looks_opaque X₂ T.opq) (l₀ := .ref C :: bm) ?_ rfl X₂ hsup (I₂.type.andThen (looks_subIn X₂ T.veC)) ne (by decide) ?_
  · exact fun A Q E s k q => wpAny_bind ((looks_clsIn X₂ hcl) A _ E s k (wpAny_pure q))
  show wpAny _ _ (callWith _ (.ref h₂.objs.size) [] (backTo p4 (starEach [.Constant (.str msg) j p3] _)) []) _ _ _
  refine kxs_callWith (i := "ValueError.__init__") (x := x) rfl ?_
  show wpAny _ _ (evalArgs _ true ((false, eval (.Constant (.str msg) j p3) (ksEnv qual scope L fI (.ref cda) cc)) :: []) []) _ _ _
  refine evalArgs_plain (spliced_cons (wpAny_Constant_str (spliced_nil ⟨Heap.get?_push_at rfl rfl, ?_⟩)))
  have hu : (h₂.push (kxs_mw "ValueError.__init__" x)).get? h₂.objs.size = some (kxs_mw "ValueError.__init__" x) := Heap.get?_push_at rfl rfl
  have he₃ : (h₂.push (kxs_mw "ValueError.__init__" x)).get? x = some (excO C t0) := Heap.get?_push_of_some _ hx₂
  have hC₃ : (h₂.push (kxs_mw "ValueError.__init__" x)).get? C = _ := Heap.get?_push_of_some _ (X₂ _ _ hC)
  refine wpAny_call (codeAny_of_tree ?_)
  show wpAny _ _ (callAny (.ref h₂.objs.size) ⟨[.str msg _], []⟩) _ _ _
  simp only [callAny]
  refine wpAny_bind (wpAny_load hu ?_)
  simp only [kxs_mw, show (Value.type "method-wrapper" == Value.type "method" || Value.type "method-wrapper" == Value.type "builtin_function_or_method" || Value.type "method-wrapper" == Value.type "method-wrapper") = true by decide, if_true]
  refine KFB.if_so (by decide) ?_
  refine wpAny_bind (check_bound_init F.excBase_ValueError.toExcCallFacts hC₃ he₃ rfl ?_)
  refine wpAny_bind (wpAny_pure (wpAny_pure ?_))
  refine ⟨plainId_quiet F.excBase_ValueError.init.plain _, codeAny_builtin F.excBase_ValueError.initEntry ?_⟩
  refine exc_init_tree (cls := .ref C) (t0 := t0) (dv := none) (c2 := .none) (c3 := .none) (b4 := .bool false) he₃ (by show 1 ≤ sizeLine; rw [sizeLine_eq]; omega) fun h₄ k₄ hx₄ _ => ?_
  have kk : ∀ b o, b ≠ x → h₁.get? b = some o → h₄.get? b = some o := fun b o hb e => k₄ b o hb (Heap.get?_push_of_some _ (k₂ b o e))
  have X₄ : K.In h₄ := fun a o e => kk a o (fun z => by rw [z, hnx] at e; cases e) (X₁ a o e)
  have hLx : L ≠ x := fun z => by
    have : x < hp.objs.size := Heap.lt_size hx
    have hL' : hp.objs.size = L := hL
    rw [hL', z] at this
    exact Nat.lt_irrefl _ this
  have hns₄ : h₄.Ns L (fun y => ([(("self" : Str), Value.ref x), (fld, v)] : List (Str × Value)).reverse.lookup y) := hns.at fun o q => kk L o hLx q
  refine PySem.wpAt_of_wpAny (wpAny_execs_cons (plainObj_wpAny_Assign_Attribute ?_))
  refine wpAny_Name (wpAny_loadName_local (env := ksEnv qual scope L fI (.ref cda) cc) sk s4 hns₄ look2 ?_) hfd
  refine wpAny_Name (wpAny_loadName_local (env := ksEnv qual scope L fI (.ref cda) cc) sk s3 hns₄ look1 ?_) (by decide)
  refine set_plain X₄ (ox := excO C (h₂.push (kxs_mw "ValueError.__init__" x)).objs.size) (od := none) ⟨hx₄, rfl, rfl, trivial⟩ T.sa ?_
  refine exc_osa X₄ hx₄ hcl (show refsVE (.ref C :: bm) = true from hbm) rfl T.no (fun h₅ tk₅ dx k₅ dn dne hx₅ hn₅ => ?_)
  refine wpAny_execs_nil ?_
  have z : L < h₄.objs.size := hns₄.lt
  exact hq h₅ tk₅ dx _ (fun b o hb e => k₅ b o hb (kk b o hb (k₁ b o e))) hx₅ (Nat.le_trans (Nat.le_of_lt (show hp.objs.size < h₄.objs.size from (show hp.objs.size = L from hL).symm ▸ z)) dn) dne hn₅

theorem xk_made (T : XCls prog K C fI fld) (hK : XKw K fI fld) {v : Value} (X : K.In s.heap) (hg : s.heap.Ns mainGlobals mg) (hmg : mg "super" = none) (hb : s.heap.Ns builtinsNs mb) (hmb : mb "super" = bootBuiltins "super") (hlim : s.heap.NoLimit) (hroom : A.depth + 1 < recursionLimit)
    (hq : ∀ h' tk e d, XMade s.heap h' e C d fld v → R (.ok (.ret (.ref e))) { s with heap := h', toks := tk }) :
    codeAny (model prog w) A (.call (.ref C) ⟨[], [(fld, v)]⟩) R s := by
  obtain ⟨nm, q, N, bs, bm, sn, sub, ab, col, dd, k0, k1, k2, k3, k5, hC, hbm⟩ := T.cls
  obtain ⟨hp, g, dr, tk, os⟩ := s
  have k : ∀ b o, hp.get? b = some o → ((hp.push (kdv_tup [])).push (excO C hp.objs.size)).get? b = some o := fun b o e => Heap.get?_push_of_some _ (Heap.get?_push_of_some _ e)
  have hget : ((hp.push (kdv_tup [])).push (excO C hp.objs.size)).get? (hp.objs.size + 1) = some (excO C hp.objs.size) := by heap_get
  have hnx : K.lookup (hp.objs.size + 1) = none := by
    cases e : K.lookup (hp.objs.size + 1) with
    | none => rfl
    | some o =>
      have z : hp.get? (hp.objs.size + 1) = some o := X _ _ e
      exact absurd (Nat.lt_of_succ_lt (Heap.lt_size z)) (Nat.lt_irrefl _)
  refine call_ownK (kw := [(fld, v)]) F.excBase_ValueError (fun X => refsVE_contains X bm hbm) (X _ _ hC) (looks_findIn X T.iC) (fun self => bind_fn X self T.tI) (by show 0 ≤ sizeLine; omega) (by show 1 ≤ sizeLine; rw [sizeLine_eq]; omega) ?_
  refine xk_init (s := ⟨(hp.push (kdv_tup [])).push (excO C hp.objs.size), g, dr, tk, os⟩) T hK (X.keeps k) (hg.keeps k) hmg (hb.keeps k) hmb (hlim.keeps k) hget hnx ?_ fun h' tk' dx t1 k' hx dn dne hns => ?_
  · show A.depth + 1 < recursionLimit
    exact hroom
  · have old : ∀ b o, hp.get? b = some o → h'.get? b = some o := fun b o e => k' b o (Nat.ne_of_lt (Nat.lt_succ_of_lt (Heap.lt_size e))) (k b o e)
    have z : hp.objs.size + 1 + 1 ≤ dx := by
      first
        | (simpa only [Heap.size_push] using dn)
        | exact dn
        | (have q := dn; rw [Heap.size_push, Heap.size_push] at q; exact q)
    exact ⟨rfl, hq h' tk' (hp.objs.size + 1) dx ⟨old, Nat.le_succ _, ⟨t1, hx⟩, by show hp.objs.size ≤ dx; omega, dne, hns⟩⟩

end

abbrev xiBody2 (fld gld msg : Str) (j : Nat) (p0 p1 p2 p3 p4 p5 p6 p7 p8 p9 p10 p11 p12 p13 : Pos) : List Stmt :=
  [.Expr (.Call (.Attribute (.Call (.Name "super" p0) [] [] p1) "__init__" p2) [.Constant (.str msg) j p3] [] p4) p5,
   .Assign [.Attribute (.Name "self" p6) fld p7] (.Name fld p8) p9, .Assign [.Attribute (.Name "self" p10) gld p11] (.Name gld p12) p13]

structure XCls2 (P : Program) (K : Frag) (C fI : Addr) (fld gld : Str) : Prop where
  cls : ∃ nm q N bs bm sn sub ab col dd k0 k1 k2 k3 k5, K.lookup C = some (excClassObj nm q C N bs bm true sn sub ab col dd k0 k1 k2 k3 k5 "ValueError.__new__") ∧ refsVE bm = true
  sa : findIn K (.ref C) "__setattr__" = some (some (.builtin "object.__setattr__"))
  no : findIn K (.ref C) fld = some none
  no2 : findIn K (.ref C) gld = some none
  iC : findIn K (.ref C) "__init__" = some (some (.ref fI))
  tI : typeIn K (.ref fI) = some (.type "function")
  kC : keepIn K (.ref C) = true
  exC : subIn K (.ref C) (.type "BaseException") = some true
  veC : subIn K (.ref C) (.type "ValueError") = some true
  tyC : typeIn K (.ref C) = some (.type "type")
  sf : mroIn K C (.ref C) = some true
  opq : nsIn K cStatics "thirdparty.any" = some none
  sup : ks_superIn K C C "__init__" = some (some (.builtin "ValueError.__init__"))
  fn : ∃ (oc : Value) (od : Option Addr) (doc pm : Value) (an : Option Addr) (ct : Value) (osl : Array (Option Value)) (cc cda : Addr) (args : Arguments) (scope : Scope) (qual msg : Str) (j : Nat) (p0 p1 p2 p3 p4 p5 p6 p7 p8 p9 p10 p11 p12 p13 : Pos) (ar : Arg)
      (ccl : Value) (cdd : Option Addr) (vs : Array Value) (ccs : Array (Option Value)) (file : Str) (tf : Tok) (cl : Value) (cld : Option Addr) (csl : Array (Option Value)),
    K.lookup fI = some ⟨oc, od, .func (ksFn "__init__" qual args (xiBody2 fld gld msg j p0 p1 p2 p3 p4 p5 p6 p7 p8 p9 p10 p11 p12 p13) scope .none .none doc pm an (.ref cda) ct cc), osl⟩ ∧ codeIn K (.ref cda) qual = true ∧
    K.lookup cda = some ⟨ccl, cdd, .fields vs, ccs⟩ ∧ vs[2]? = some (.str file tf) ∧ ((P.main.file : Str) == file) = true ∧
    K.lookup cc = some ⟨cl, cld, .cell (some (.ref C)), csl⟩ ∧
    (args.posonlyargs ++ args.args).head? = some ar ∧ ar.arg = "self" ∧
    scope.names.lookup ("super" : Str) = some .globalImplicit ∧ scope.names.lookup ("__class__" : Str) = some .free ∧ scope.names.lookup ("self" : Str) = some .local ∧ scope.names.lookup fld = some .local ∧ scope.names.lookup gld = some .local ∧
    (∀ x ∈ scope.names, x.2 ≠ .cell) ∧ scope.kind = .function ∧ scope.isCoroutine = false ∧ scope.isGenerator = false ∧
    (∀ a b c : Value, bindArgs (ksFn "__init__" qual args (xiBody2 fld gld msg j p0 p1 p2 p3 p4 p5 p6 p7 p8 p9 p10 p11 p12 p13) scope .none .none doc pm an (.ref cda) ct cc) ⟨[a, b, c], []⟩ = pure [(("self" : Str), a), (fld, b), (gld, c)]) ∧ (∀ a b c : Value, bindArgs (ksFn "__init__" qual args (xiBody2 fld gld msg j p0 p1 p2 p3 p4 p5 p6 p7 p8 p9 p10 p11 p12 p13) scope .none .none doc pm an (.ref cda) ct cc) ⟨[a], [(fld, b), (gld, c)]⟩ = pure [(("self" : Str), a), (fld, b), (gld, c)]) ∧
    (fld == ("self" : Str)) = false ∧ (fld == ("__debug__" : Str)) = false ∧ (gld == ("self" : Str)) = false ∧ (gld == ("__debug__" : Str)) = false ∧ (gld == fld) = false ∧ (p2.endLine == p4.line) = true
  top : (P.main.scope.names.lookup ("super" : Str)).isSome = false


section
variable {prog : Program} {w : World} {A : Around} {E : Value → Shared → Prop} {R : Result → Shared → Prop} {s : Shared} {K : Frag} {mg mb : Str → Option Value} {C fI : Addr} {fld gld : Str}

theorem x2_init (T : XCls2 prog K C fI fld gld) {x t0 : Addr} {v u : Value} {ag : Args} (hag : ag = ⟨[.ref x, v, u], []⟩ ∨ ag = ⟨[.ref x], [(fld, v), (gld, u)]⟩) (X : K.In s.heap) (hg : s.heap.Ns mainGlobals mg) (hmg : mg "super" = none) (hb : s.heap.Ns builtinsNs mb) (hmb : mb "super" = bootBuiltins "super") (hlim : s.heap.NoLimit)
    (hx : s.heap.get? x = some (excO C t0)) (hnx : K.lookup x = none) (hroom : A.depth < recursionLimit)
    (hq : ∀ h' tk dx t1, (∀ b o, b ≠ x → s.heap.get? b = some o → h'.get? b = some o) → h'.get? x = some (xobj C dx t1) → s.heap.objs.size ≤ dx → dx ≠ x → h'.Ns1 dx (fun y => if y = gld then some u else if y = fld then some v else none) →
      R (.ok (.ret .none)) { s with heap := h', toks := tk }) :
    codeAny (model prog w) A (.call (.ref fI) ag) R s := by
  obtain ⟨nm, q, N, bs, bm, sn, sub, ab, col, dd, k0, k1, k2, k3, k5, hC, hbm⟩ := T.cls
  have hcl : clsIn K C = some { name := nm, bases := bs, mro := .ref C :: bm, ns := N, qualname := q, hasDict := true, slotNames := sn, subclasses := sub, abstract := ab, collection := col, hasDel := false } := by unfold clsIn; rw [hC] <;> rfl
  obtain ⟨oc, od, doc, pm, an, ct, osl, cc, cda, args, scope, qual, msg, j, p0, p1, p2, p3, p4, p5, p6, p7, p8, p9, p10, p11, p12, p13, ar, ccl, cdd, vs, ccs, file, tf, cl, cld, csl, hfI, hcd, hcda, hvs, hfile, hcell, har, hself, s1, s2, s3, s4, s5, sc, sk, sco, sg, hbind, hbindK, hfs, hfd, hgs, hgd, hgf, hline⟩ := T.fn
  refine ks_codeAny_call_defAt (fd := ksFn "__init__" qual args (xiBody2 fld gld msg j p0 p1 p2 p3 p4 p5 p6 p7 p8 p9 p10 p11 p12 p13) scope .none .none doc pm an (.ref cda) ct cc) (body := xiBody2 fld gld msg j p0 p1 p2 p3 p4 p5 p6 p7 p8 p9 p10 p11 p12 p13)
    (binds := [(("self" : Str), .ref x), (fld, v), (gld, u)]) hroom (X _ _ hfI) rfl hlim (codeRec_of X hcd) rfl (by rcases hag with rfl | rfl; exact BindsTo.of_eq (hbind _ _ _); exact BindsTo.of_eq (hbindK _ _ _)) sc (fun y hy => ?_) (fun h₁ hns k₁ => ?_) sco sg sk
  · rcases List.mem_cons.mp hy with rfl | hy
    · exact s3
    · rcases List.mem_cons.mp hy with rfl | hy
      · exact s4
      · rcases List.mem_cons.mp hy with rfl | hy
        · exact s5
        · cases hy
  have X₁ : K.In h₁ := fun a o e => k₁ a o (X a o e)
  have hx₁ := k₁ _ _ hx
  generalize hL : s.heap.objs.size = L at hns ⊢
  have ns : ∀ {a : Str}, (a == ("self" : Str)) = false → (("self" : Str) == a) = false := fun {a} h => by
    rw [Bool.eq_false_iff] at h ⊢
    intro z
    exact h (by rw [beq_iff_eq] at z ⊢; exact z.symm)
  have nf : (fld == gld) = false := by
    rw [Bool.eq_false_iff] at hgf ⊢
    intro z
    exact hgf (by rw [beq_iff_eq] at z ⊢; exact z.symm)
  have look1 : ([(("self" : Str), Value.ref x), (fld, v), (gld, u)] : List (Str × Value)).reverse.lookup ("self" : Str) = some (Value.ref x) := by
    show ([(gld, u), (fld, v), (("self" : Str), Value.ref x)] : List (Str × Value)).lookup ("self" : Str) = _
    simp [List.lookup, ns hfs, ns hgs]
  have look2 : ([(("self" : Str), Value.ref x), (fld, v), (gld, u)] : List (Str × Value)).reverse.lookup fld = some v := by
    show ([(gld, u), (fld, v), (("self" : Str), Value.ref x)] : List (Str × Value)).lookup fld = _
    simp [List.lookup, nf]
  have look3 : ([(("self" : Str), Value.ref x), (fld, v), (gld, u)] : List (Str × Value)).reverse.lookup gld = some u := by
    show ([(gld, u), (fld, v), (("self" : Str), Value.ref x)] : List (Str × Value)).lookup gld = _
    simp [List.lookup]
  show PySem.wpAt _ _ (.func _ (ksEnv qual scope L fI (.ref cda) cc)) (execs _ (ksEnv qual scope L fI (.ref cda) cc)) _ _ _
  have hgk : h₁.Ns mainGlobals mg := hg.keeps k₁
  have hbk : h₁.Ns builtinsNs mb := hb.keeps k₁
  have ne : x ≠ C := fun z => by
    rw [z] at hnx
    rw [hC] at hnx
    cases hnx
  obtain ⟨hp, g, d, tk, os⟩ := s
  refine ks_wpAt_execs_cons (ks_wpAt_Expr_any ?_ ?hint ?hsw)
  case hint => show (scope.kind == .module && _) = false; rw [sk]; rfl
  case hsw => first | rfl | with_unfolding_all rfl
  refine ks_wpAt_MethodCall (pl := ?pl) ?_ ?he
  case pl => exact (do return (← importBound (.Call (.Name "super" p0) [] [] p1) (ksEnv qual scope L fI (.ref cda) cc)).getD true)
  case he =>
    show (attributeBase _ _ _ _ >>= fun ov => standAt p2.atName >>= fun _ => methodCall _ _ _ _ _ ov _ _ _) = _
    unfold methodCall methodCallPos
    simp only [hline, Bool.or_true, if_true, pure_bind]
    rfl
  refine ks_wpAt_super_base (env := ksEnv qual scope L fI (.ref cda) cc) s1 s2 rfl (f := fI) rfl (X₁ _ _ hfI) rfl har (cc := cda) rfl (X₁ _ _ hcda) rfl hvs hfile T.top ?_
  refine ks_loadName_global sk s1 (loadGlobal_builtin (env := ksEnv qual scope L fI (.ref cda) cc) hgk hmg hbk (hmb.trans (by rfl)) ⟨rfl, ?_⟩)
  refine wpAny_loadName_free sk s2 rfl ⟨_, X₁ _ _ hcell, rfl⟩ ?_
  rw [hself]
  refine wpAny_loadName_local sk s3 hns look1 ?_
  refine ks_wpAny_isType_cls (X₁ _ _ hC) rfl ⟨rfl, ?_⟩
  refine ks_wpAny_call_super (X₁ _ _ hC) rfl hx₁ rfl (fun c e => by cases e) (looks_mroIn X₁ T.sf) (fun h₂ e₂ k₂ => ?_)
  have X₂ : K.In h₂ := fun a o e => k₂ a o (X₁ a o e)
  have hx₂ := k₂ _ _ hx₁
  have I₂ : InstAt h₂ x (excO C t0) C none := ⟨hx₂, rfl, rfl, trivial⟩
  have hsup := T.sup
  unfold ks_superIn at hsup
  rw [hcl] at hsup
  refine kxs_getMethod kxs_ValueError (D := C) (x := x) (C := C) e₂ (looks_opaque X₂ T.opq) (l₀ := .ref C :: bm) ?_ rfl X₂ hsup (I₂.type.andThen (looks_subIn X₂ T.veC)) ne (by decide) ?_
  · exact fun A Q E s k q => wpAny_bind ((looks_clsIn X₂ hcl) A _ E s k (wpAny_pure q))
  show wpAny _ _ (callWith _ (.ref h₂.objs.size) [] (backTo p4 (starEach [.Constant (.str msg) j p3] _)) []) _ _ _
  refine kxs_callWith (i := "ValueError.__init__") (x := x) rfl ?_
  show wpAny _ _ (evalArgs _ true ((false, eval (.Constant (.str msg) j p3) (ksEnv qual scope L fI (.ref cda) cc)) :: []) []) _ _ _
  refine evalArgs_plain (spliced_cons (wpAny_Constant_str (spliced_nil ⟨Heap.get?_push_at rfl rfl, ?_⟩)))
  have hu : (h₂.push (kxs_mw "ValueError.__init__" x)).get? h₂.objs.size = some (kxs_mw "ValueError.__init__" x) := Heap.get?_push_at rfl rfl
  have he₃ : (h₂.push (kxs_mw "ValueError.__init__" x)).get? x = some (excO C t0) := Heap.get?_push_of_some _ hx₂
  have hC₃ : (h₂.push (kxs_mw "ValueError.__init__" x)).get? C = _ := Heap.get?_push_of_some _ (X₂ _ _ hC)
  refine wpAny_call (codeAny_of_tree ?_)
  show wpAny _ _ (callAny (.ref h₂.objs.size) ⟨[.str msg _], []⟩) _ _ _
  simp only [callAny]
  refine wpAny_bind (wpAny_load hu ?_)
  simp only [kxs_mw, show (Value.type "method-wrapper" == Value.type "method" || Value.type "method-wrapper" == Value.type "builtin_function_or_method" || Value.type "method-wrapper" == Value.type "method-wrapper") = true by decide, if_true]
  refine KFB.if_so (by decide) ?_
  refine wpAny_bind (check_bound_init F.excBase_ValueError.toExcCallFacts hC₃ he₃ rfl ?_)
  refine wpAny_bind (wpAny_pure (wpAny_pure ?_))
  refine ⟨plainId_quiet F.excBase_ValueError.init.plain _, codeAny_builtin F.excBase_ValueError.initEntry ?_⟩
  refine exc_init_tree (cls := .ref C) (t0 := t0) (dv := none) (c2 := .none) (c3 := .none) (b4 := .bool false) he₃ (by show 1 ≤ sizeLine; rw [sizeLine_eq]; omega) fun h₄ k₄ hx₄ _ => ?_
  have kk : ∀ b o, b ≠ x → h₁.get? b = some o → h₄.get? b = some o := fun b o hb e => k₄ b o hb (Heap.get?_push_of_some _ (k₂ b o e))
  have X₄ : K.In h₄ := fun a o e => kk a o (fun z => by rw [z, hnx] at e; cases e) (X₁ a o e)
  have hLx : L ≠ x := fun z => by
    have : x < hp.objs.size := Heap.lt_size hx
    have hL' : hp.objs.size = L := hL
    rw [hL', z] at this
    exact Nat.lt_irrefl _ this
  have hns₄ : h₄.Ns L (fun y => ([(("self" : Str), Value.ref x), (fld, v), (gld, u)] : List (Str × Value)).reverse.lookup y) := hns.at fun o q => kk L o hLx q
  refine PySem.wpAt_of_wpAny (wpAny_execs_cons (plainObj_wpAny_Assign_Attribute ?_))
  refine wpAny_Name (wpAny_loadName_local (env := ksEnv qual scope L fI (.ref cda) cc) sk s4 hns₄ look2 ?_) hfd
  refine wpAny_Name (wpAny_loadName_local (env := ksEnv qual scope L fI (.ref cda) cc) sk s3 hns₄ look1 ?_) (by decide)
  refine set_plain X₄ (ox := excO C (h₂.push (kxs_mw "ValueError.__init__" x)).objs.size) (od := none) ⟨hx₄, rfl, rfl, trivial⟩ T.sa ?_
  refine exc_osa X₄ hx₄ hcl (show refsVE (.ref C :: bm) = true from hbm) rfl T.no (fun h₅ tk₅ dx k₅ dn dne hx₅ hn₅ => ?_)
  have X₅ : K.In h₅ := fun a o e => k₅ a o (fun z => by rw [z, hnx] at e; cases e) (X₄ a o e)
  have z : L < h₄.objs.size := hns₄.lt
  have hns₅ : h₅.Ns L (fun y => ([(("self" : Str), Value.ref x), (fld, v), (gld, u)] : List (Str × Value)).reverse.lookup y) := hns₄.at fun o q => k₅ L o hLx q
  refine wpAny_execs_cons (plainObj_wpAny_Assign_Attribute ?_)
  refine wpAny_Name (wpAny_loadName_local (env := ksEnv qual scope L fI (.ref cda) cc) sk s5 hns₅ look3 ?_) hgd
  refine wpAny_Name (wpAny_loadName_local (env := ksEnv qual scope L fI (.ref cda) cc) sk s3 hns₅ look1 ?_) (by decide)
  have hw5 : Within (fun y => if y = fld then some v else none) [fld] := Within.cons fld v Within.nil
  obtain ⟨oD, _, _, hoD, _, _⟩ := hn₅.count hw5
  refine set_plain X₅ (od := some oD) ⟨hx₅, rfl, rfl, hoD⟩ T.sa ?_
  refine PySem.OEX.osa_old X₅ hx₅ hn₅ hw5 (by simp) hcl (show refsVE (.ref C :: bm) = true from hbm) rfl T.no2 (fun h₆ tk₆ k₆ hn₆ => ?_)
  refine wpAny_execs_nil ?_
  have big : hp.objs.size ≤ dx := Nat.le_trans (Nat.le_of_lt (show hp.objs.size < h₄.objs.size from (show hp.objs.size = L from hL).symm ▸ z)) dn
  exact hq h₆ tk₆ dx _ (fun b o hb e => k₆ b o (Nat.ne_of_lt (Nat.lt_of_lt_of_le (Heap.lt_size e) big)) (k₅ b o hb (kk b o hb (k₁ b o e)))) (k₆ x _ dne.symm hx₅) big dne hn₆

/-- a made exception of the class -/
structure XMade2 (h h' : Heap) (e C d : Addr) (fld gld : Str) (v u : Value) : Prop where
  keep : ∀ b o, h.get? b = some o → h'.get? b = some o
  new : h.objs.size ≤ e
  obj : ∃ t1, h'.get? e = some (xobj C d t1)
  dbig : h.objs.size ≤ d
  dne : d ≠ e
  ns : h'.Ns1 d (fun y => if y = gld then some u else if y = fld then some v else none)

theorem x2_made (T : XCls2 prog K C fI fld gld) {v u : Value} (X : K.In s.heap) (hg : s.heap.Ns mainGlobals mg) (hmg : mg "super" = none) (hb : s.heap.Ns builtinsNs mb) (hmb : mb "super" = bootBuiltins "super") (hlim : s.heap.NoLimit) (hroom : A.depth + 1 < recursionLimit)
    (hq : ∀ h' tk e d, XMade2 s.heap h' e C d fld gld v u → R (.ok (.ret (.ref e))) { s with heap := h', toks := tk }) :
    codeAny (model prog w) A (.call (.ref C) ⟨[v, u], []⟩) R s := by
  obtain ⟨nm, q, N, bs, bm, sn, sub, ab, col, dd, k0, k1, k2, k3, k5, hC, hbm⟩ := T.cls
  obtain ⟨hp, g, dr, tk, os⟩ := s
  have k : ∀ b o, hp.get? b = some o → ((hp.push (kdv_tup [v, u])).push (excO C hp.objs.size)).get? b = some o := fun b o e => Heap.get?_push_of_some _ (Heap.get?_push_of_some _ e)
  have hget : ((hp.push (kdv_tup [v, u])).push (excO C hp.objs.size)).get? (hp.objs.size + 1) = some (excO C hp.objs.size) := by heap_get
  have hnx : K.lookup (hp.objs.size + 1) = none := by
    cases e : K.lookup (hp.objs.size + 1) with
    | none => rfl
    | some o =>
      have z : hp.get? (hp.objs.size + 1) = some o := X _ _ e
      exact absurd (Nat.lt_of_succ_lt (Heap.lt_size z)) (Nat.lt_irrefl _)
  refine call_own F.excBase_ValueError (fun X => refsVE_contains X bm hbm) (X _ _ hC) (looks_findIn X T.iC) (fun self => bind_fn X self T.tI) (by show 2 ≤ sizeLine; rw [sizeLine_eq]; omega) ?_
  refine x2_init (s := ⟨(hp.push (kdv_tup [v, u])).push (excO C hp.objs.size), g, dr, tk, os⟩) T (.inl rfl) (X.keeps k) (hg.keeps k) hmg (hb.keeps k) hmb (hlim.keeps k) hget hnx ?_ fun h' tk' dx t1 k' hx dn dne hns => ?_
  · show A.depth + 1 < recursionLimit
    exact hroom
  · have old : ∀ b o, hp.get? b = some o → h'.get? b = some o := fun b o e => k' b o (Nat.ne_of_lt (Nat.lt_succ_of_lt (Heap.lt_size e))) (k b o e)
    have z : hp.objs.size + 1 + 1 ≤ dx := by
      first
        | (simpa only [Heap.size_push] using dn)
        | exact dn
        | (have q := dn; rw [Heap.size_push, Heap.size_push] at q; exact q)
    exact ⟨rfl, hq h' tk' (hp.objs.size + 1) dx ⟨old, Nat.le_succ _, ⟨t1, hx⟩, by show hp.objs.size ≤ dx; omega, dne, hns⟩⟩

theorem x2k_made (T : XCls2 prog K C fI fld gld) {v u : Value} (X : K.In s.heap) (hg : s.heap.Ns mainGlobals mg) (hmg : mg "super" = none) (hb : s.heap.Ns builtinsNs mb) (hmb : mb "super" = bootBuiltins "super") (hlim : s.heap.NoLimit) (hroom : A.depth + 1 < recursionLimit)
    (hq : ∀ h' tk e d, XMade2 s.heap h' e C d fld gld v u → R (.ok (.ret (.ref e))) { s with heap := h', toks := tk }) :
    codeAny (model prog w) A (.call (.ref C) ⟨[], [(fld, v), (gld, u)]⟩) R s := by
  obtain ⟨nm, q, N, bs, bm, sn, sub, ab, col, dd, k0, k1, k2, k3, k5, hC, hbm⟩ := T.cls
  obtain ⟨hp, g, dr, tk, os⟩ := s
  have k : ∀ b o, hp.get? b = some o → ((hp.push (kdv_tup [])).push (excO C hp.objs.size)).get? b = some o := fun b o e => Heap.get?_push_of_some _ (Heap.get?_push_of_some _ e)
  have hget : ((hp.push (kdv_tup [])).push (excO C hp.objs.size)).get? (hp.objs.size + 1) = some (excO C hp.objs.size) := by heap_get
  have hnx : K.lookup (hp.objs.size + 1) = none := by
    cases e : K.lookup (hp.objs.size + 1) with
    | none => rfl
    | some o =>
      have z : hp.get? (hp.objs.size + 1) = some o := X _ _ e
      exact absurd (Nat.lt_of_succ_lt (Heap.lt_size z)) (Nat.lt_irrefl _)
  refine call_ownK (kw := [(fld, v), (gld, u)]) F.excBase_ValueError (fun X => refsVE_contains X bm hbm) (X _ _ hC) (looks_findIn X T.iC) (fun self => bind_fn X self T.tI) (by show 0 ≤ sizeLine; omega) (by show 2 ≤ sizeLine; rw [sizeLine_eq]; omega) ?_
  refine x2_init (s := ⟨(hp.push (kdv_tup [])).push (excO C hp.objs.size), g, dr, tk, os⟩) T (.inr rfl) (X.keeps k) (hg.keeps k) hmg (hb.keeps k) hmb (hlim.keeps k) hget hnx ?_ fun h' tk' dx t1 k' hx dn dne hns => ?_
  · show A.depth + 1 < recursionLimit
    exact hroom
  · have old : ∀ b o, hp.get? b = some o → h'.get? b = some o := fun b o e => k' b o (Nat.ne_of_lt (Nat.lt_succ_of_lt (Heap.lt_size e))) (k b o e)
    have z : hp.objs.size + 1 + 1 ≤ dx := by
      first
        | (simpa only [Heap.size_push] using dn)
        | exact dn
        | (have q := dn; rw [Heap.size_push, Heap.size_push] at q; exact q)
    exact ⟨rfl, hq h' tk' (hp.objs.size + 1) dx ⟨old, Nat.le_succ _, ⟨t1, hx⟩, by show hp.objs.size ≤ dx; omega, dne, hns⟩⟩

end
end Vs
namespace Vs
open PySem PySem.Spec PyProof.Rows L2
theorem relO_x2 {v u : V} {v' u' : Value} {fld gld : Str} (r : RelV v v') (q : RelV u u') (f : Str) : RelO (List.lookup f [(gld, u), (fld, v)]) (if f = gld then some u' else if f = fld then some v' else none) := by
  have := relO_put (f := gld) q (fs := [(fld, v)]) (mA := fun f => if f = fld then some v' else none) (relO_x r) f
  exact this
section
variable {X : Cx} {C fI : Addr} {fld gld : Str}
theorem pmk_xk {x : Str} {kws : List Keyword} {ta : TA} {p pos : Pos} {k : Nat} (T : XCls X.prog X.K C fI fld) (hK : XKw X.K fI fld) (hr : Room k X.A) (ha : PK X kws ta) (hg : Gl X x) (hm : X.mg x = some (.ref C)) (hsup : X.mg "super" = none) (hdb : (x == ("__debug__" : Str)) = false := by decide)
    (hall : (backToKw pos (keywordEach kws X.env)).all (·.1.isSome) = true := by rfl) (hks : (backToKw pos (keywordEach kws X.env)).filterMap (·.1) = [fld] := by rfl) (hpl : ((backTo pos (starEach [] X.env)).any (·.1) || (backToKw pos (keywordEach kws X.env)).any (·.1.isNone)) = false := by rfl) :
    L2N.PMk X (.Call (.Name x p) [] kws pos) (tMkX C fld ta) := by
  intro pins s σ H Q I h
  refine wpAny_Call_Name_kw (ld_glob I hg hm ?_ hdb)
  refine PySem.W.callWith_KW0 (h₀ := X.base) I.ok.mod.kin T.kC hall (L2.thn (ha.run pos pins s σ H _ I h) fun us s1 hh => ?_) hpl
  obtain ⟨vs, H1, I1, r1, v, ev, q1⟩ := hh
  subst ev
  refine ⟨I1.kIn, ?_⟩
  cases r1 with
  | cons rv rn =>
    rename_i v' us'
    cases rn
    rw [hks]
    show wpAny _ _ (call (.ref C) [] [(fld, v')]) _ _ _
    have hlim := I1.nolimit
    obtain ⟨mb, hb1, hb2⟩ := I1.mod.blt
    have hgn := I1.mod.glob.keeps I1.bk
    have hbn := hb1.keeps I1.bk
    have hKI := I1.kIn
    obtain ⟨hp, g, dr, tk, os⟩ := s1
    refine wpAny_call (xk_made T hK hKI hgn hsup hbn (hb2 _ (by decide)) hlim (by have := hr.dp; omega) fun h' tk' e d M => ?_)
    show L2N.MkP X pins σ Q (.ref e) ⟨h', g, dr, tk', os⟩
    obtain ⟨t1, hoe⟩ := M.obj
    have hns := M.ns
    obtain ⟨G', g1, g2⟩ := restrict h' fun b => decide (b ≠ e)
    have gk : ∀ b, b ≠ e → G'.get? b = h'.get? b := fun b hb => g1 b (decide_eq_true hb)
    have ge : G'.get? e = none := g2 e (by simp)
    have old : ∀ b o, hp.get? b = some o → G'.get? b = some o := fun b o q => (gk b (Nat.ne_of_lt (Nat.lt_of_lt_of_le (Heap.lt_size q) M.new))).trans (M.keep b o q)
    have ob : ObjOk X.prog X.w (upd H1 d (.xd [(fld, v)])) G' d (.xd [(fld, v)]) :=
      ⟨_, hns.at (fun o q => (gk d M.dne).trans q), fun f => relO_x rv f⟩
    have J : Inv X pins σ (upd H1 d (.xd [(fld, v)])) ⟨G', g, dr, tk', os⟩ := I1.laid (t' := tk') old M.dbig ob
    refine ⟨e, _, _, ⟨G', g, dr, tk', os⟩, _, .ref C, some d, rfl, J, fun b o q => ?_, ge, hoe, ⟨rfl, rfl, fun vs z => ?_⟩, rfl, rfl, ?_, rfl, I1.bare, raises_own T.exC T.tyC, q1 d (I1.hok.fresh M.dbig)⟩
    · by_cases hb : b = e
      · have q' : G'.get? b = some o := q
        rw [hb, ge] at q'; cases q'
      · exact (gk b hb).symm.trans q
    · cases z
      rfl
    · rw [upd_ne (Ne.symm M.dne)]
      exact I1.hok.fresh M.new
/-- C(a, b) -/
def tMkX2 (C : Addr) (fld gld : Str) (ta : TA) : L2.St → Hp → XK → Prop := fun σ H Q => ta σ H fun vs H1 => ∃ v u, vs = [v, u] ∧ ∀ d, H1 d = none → Q (.ref C) (some d) (upd H1 d (.xd [(gld, u), (fld, v)]))
theorem pmk_x2 {x : Str} {a b : Expr} {ta : TA} {p pos : Pos} {k : Nat} (T : XCls2 X.prog X.K C fI fld gld) (hr : Room k X.A) (ha : PA X [a, b] ta) (hg : Gl X x) (hm : X.mg x = some (.ref C)) (hsup : X.mg "super" = none) (hdb : (x == ("__debug__" : Str)) = false := by decide)
    (he : starEach (a :: [b]) X.env = (false, eval a X.env) :: starEach [b] X.env := by rfl) (hpl : (backTo pos (starEach [b] X.env)).any (·.1) = false := by rfl) :
    L2N.PMk X (.Call (.Name x p) [a, b] [] pos) (tMkX2 C fld gld ta) := by
  intro pins s σ H Q I h
  refine wpAny_Call_Name_kw (ld_glob I hg hm ?_ hdb)
  refine PySem.W.callWith_K (h₀ := X.base) I.ok.mod.kin T.kC (L2.thn (ha.run pos pins s σ H _ I h) fun us s1 hh => ?_) he hpl
  obtain ⟨vs, H1, I1, r1, v, u, ev, q1⟩ := hh
  subst ev
  refine ⟨I1.kIn, ?_⟩
  cases r1 with
  | cons rv rn =>
    rename_i v' us'
    cases rn with
    | cons ru rn =>
    rename_i u' us2
    cases rn
    show wpAny _ _ (call (.ref C) [v', u']) _ _ _
    have hlim := I1.nolimit
    obtain ⟨mb, hb1, hb2⟩ := I1.mod.blt
    have hgn := I1.mod.glob.keeps I1.bk
    have hbn := hb1.keeps I1.bk
    have hK := I1.kIn
    obtain ⟨hp, g, dr, tk, os⟩ := s1
    refine wpAny_call (x2_made T hK hgn hsup hbn (hb2 _ (by decide)) hlim (by have := hr.dp; omega) fun h' tk' e d M => ?_)
    show L2N.MkP X pins σ Q (.ref e) ⟨h', g, dr, tk', os⟩
    obtain ⟨t1, hoe⟩ := M.obj
    have hns := M.ns
    obtain ⟨G', g1, g2⟩ := restrict h' fun b => decide (b ≠ e)
    have gk : ∀ b, b ≠ e → G'.get? b = h'.get? b := fun b hb => g1 b (decide_eq_true hb)
    have ge : G'.get? e = none := g2 e (by simp)
    have old : ∀ b o, hp.get? b = some o → G'.get? b = some o := fun b o q => (gk b (Nat.ne_of_lt (Nat.lt_of_lt_of_le (Heap.lt_size q) M.new))).trans (M.keep b o q)
    have ob : ObjOk X.prog X.w (upd H1 d (.xd [(gld, u), (fld, v)])) G' d (.xd [(gld, u), (fld, v)]) :=
      ⟨_, hns.at (fun o q => (gk d M.dne).trans q), fun f => relO_x2 rv ru f⟩
    have J : Inv X pins σ (upd H1 d (.xd [(gld, u), (fld, v)])) ⟨G', g, dr, tk', os⟩ := I1.laid (t' := tk') old M.dbig ob
    refine ⟨e, _, _, ⟨G', g, dr, tk', os⟩, _, .ref C, some d, rfl, J, fun b o q => ?_, ge, hoe, ⟨rfl, rfl, fun vs z => ?_⟩, rfl, rfl, ?_, rfl, I1.bare, raises_own T.exC T.tyC, q1 d (I1.hok.fresh M.dbig)⟩
    · by_cases hb : b = e
      · have q' : G'.get? b = some o := q
        rw [hb, ge] at q'; cases q'
      · exact (gk b hb).symm.trans q
    · cases z
      rfl
    · rw [upd_ne (Ne.symm M.dne)]
      exact I1.hok.fresh M.new
theorem pmk_x2k {x : Str} {kws : List Keyword} {ta : TA} {p pos : Pos} {k : Nat} (T : XCls2 X.prog X.K C fI fld gld) (hr : Room k X.A) (ha : PK X kws ta) (hg : Gl X x) (hm : X.mg x = some (.ref C)) (hsup : X.mg "super" = none) (hdb : (x == ("__debug__" : Str)) = false := by decide)
    (hall : (backToKw pos (keywordEach kws X.env)).all (·.1.isSome) = true := by rfl) (hks : (backToKw pos (keywordEach kws X.env)).filterMap (·.1) = [fld, gld] := by rfl) (hpl : ((backTo pos (starEach [] X.env)).any (·.1) || (backToKw pos (keywordEach kws X.env)).any (·.1.isNone)) = false := by rfl) :
    L2N.PMk X (.Call (.Name x p) [] kws pos) (tMkX2 C fld gld ta) := by
  intro pins s σ H Q I h
  refine wpAny_Call_Name_kw (ld_glob I hg hm ?_ hdb)
  refine PySem.W.callWith_KW0 (h₀ := X.base) I.ok.mod.kin T.kC hall (L2.thn (ha.run pos pins s σ H _ I h) fun us s1 hh => ?_) hpl
  obtain ⟨vs, H1, I1, r1, v, u, ev, q1⟩ := hh
  subst ev
  refine ⟨I1.kIn, ?_⟩
  cases r1 with
  | cons rv rn =>
    rename_i v' us'
    cases rn with
    | cons ru rn =>
    rename_i u' us2
    cases rn
    rw [hks]
    show wpAny _ _ (call (.ref C) [] [(fld, v'), (gld, u')]) _ _ _
    have hlim := I1.nolimit
    obtain ⟨mb, hb1, hb2⟩ := I1.mod.blt
    have hgn := I1.mod.glob.keeps I1.bk
    have hbn := hb1.keeps I1.bk
    have hK := I1.kIn
    obtain ⟨hp, g, dr, tk, os⟩ := s1
    refine wpAny_call (x2k_made T hK hgn hsup hbn (hb2 _ (by decide)) hlim (by have := hr.dp; omega) fun h' tk' e d M => ?_)
    show L2N.MkP X pins σ Q (.ref e) ⟨h', g, dr, tk', os⟩
    obtain ⟨t1, hoe⟩ := M.obj
    have hns := M.ns
    obtain ⟨G', g1, g2⟩ := restrict h' fun b => decide (b ≠ e)
    have gk : ∀ b, b ≠ e → G'.get? b = h'.get? b := fun b hb => g1 b (decide_eq_true hb)
    have ge : G'.get? e = none := g2 e (by simp)
    have old : ∀ b o, hp.get? b = some o → G'.get? b = some o := fun b o q => (gk b (Nat.ne_of_lt (Nat.lt_of_lt_of_le (Heap.lt_size q) M.new))).trans (M.keep b o q)
    have ob : ObjOk X.prog X.w (upd H1 d (.xd [(gld, u), (fld, v)])) G' d (.xd [(gld, u), (fld, v)]) :=
      ⟨_, hns.at (fun o q => (gk d M.dne).trans q), fun f => relO_x2 rv ru f⟩
    have J : Inv X pins σ (upd H1 d (.xd [(gld, u), (fld, v)])) ⟨G', g, dr, tk', os⟩ := I1.laid (t' := tk') old M.dbig ob
    refine ⟨e, _, _, ⟨G', g, dr, tk', os⟩, _, .ref C, some d, rfl, J, fun b o q => ?_, ge, hoe, ⟨rfl, rfl, fun vs z => ?_⟩, rfl, rfl, ?_, rfl, I1.bare, raises_own T.exC T.tyC, q1 d (I1.hok.fresh M.dbig)⟩
    · by_cases hb : b = e
      · have q' : G'.get? b = some o := q
        rw [hb, ge] at q'; cases q'
      · exact (gk b hb).symm.trans q
    · cases z
      rfl
    · rw [upd_ne (Ne.symm M.dne)]
      exact I1.hok.fresh M.new
end
end Vs
/-! Vs: what a def of the text computes, as a plain function over trees of data. -/
namespace Vs
open PySem (Str PyData)

/-- data, as trees -/
inductive D where
  | non | bl (b : Bool) | int (i : Int) | str (s : Str)
  | lst (l : List D) | tup (l : List D) | dic (t : Bool) (l : List (D × D)) | ins (c : Str) (l : List (Str × D))

/-- nothing in it has a place in memory -/
def D.imm : D → Bool
  | .non => true | .bl _ => true | .int _ => true | .str _ => true | _ => false
@[simp] theorem imm_non : D.imm .non = true := (rfl)
@[simp] theorem imm_bl (b : Bool) : D.imm (.bl b) = true := (rfl)
@[simp] theorem imm_int (i : Int) : D.imm (.int i) = true := (rfl)
@[simp] theorem imm_str (s : Str) : D.imm (.str s) = true := (rfl)
@[simp] theorem imm_lst (l : List D) : D.imm (.lst l) = false := (rfl)
@[simp] theorem imm_tup (l : List D) : D.imm (.tup l) = false := (rfl)
@[simp] theorem imm_dic (t : Bool) (l : List (D × D)) : D.imm (.dic t l) = false := (rfl)
@[simp] theorem imm_ins (c : Str) (l : List (Str × D)) : D.imm (.ins c l) = false := (rfl)

def dints (l : List Int) : List D := l.map D.int
/-- the name of the own class that stands at C -/
def cOf (C : Nat) : Str := ⟨#[C, 0]⟩
/-- fields of an instance, not of an exception -/
def objD (c : Str) : List (Str × D) → Bool
  | [] => decide (c ≠ "?") | p :: _ => decide (p.1 ≠ "")
theorem cOf_inj {C C' : Nat} (h : cOf C = cOf C') : C = C' := by
  have := congrArg (fun z : Str => z.cps.toList) h
  simpa [cOf] using this

mutual
/-- as the kit's data (dicts and instances have none) -/
def D.py : D → PyData
  | .non => .none | .bl b => .bool b | .int i => .int i | .str s => .str s
  | .lst l => .list (pyAll l) | .tup l => .tuple (pyAll l)
  | .dic _ l => .dict (pyKv l) | .ins _ _ => .dict []
def pyAll : List D → List PyData
  | [] => [] | d :: ds => d.py :: pyAll ds
def pyKv : List (D × D) → List (PyData × PyData)
  | [] => [] | (k, d) :: ds => (k.py, d.py) :: pyKv ds
end
mutual
/-- no dict, no instance within -/
def D.flat : D → Bool
  | .lst l => flatAll l | .tup l => flatAll l | .dic _ _ => false | .ins _ _ => false
  | .non => true | .bl _ => true | .int _ => true | .str _ => true
def flatAll : List D → Bool
  | [] => true | d :: ds => d.flat && flatAll ds
end

/-- a slot: how deep it is its own, and its data -/
abbrev PV := Nat × D
abbrev Env := List (Option PV)
/-- a value on its way: borrowed; how deep its own; its data -/
structure VV where
  b : Bool
  m : Nat
  d : D
/-- its own or without a place -/
def VV.stable (v : VV) : Bool := !v.b || v.d.imm
@[simp] theorem stable_own (m : Nat) (d : D) : VV.stable ⟨false, m, d⟩ = true := (rfl)
@[simp] theorem stable_imm (b : Bool) (m : Nat) (d : D) (h : d.imm = true) : VV.stable ⟨b, m, d⟩ = true := by simp [VV.stable, h]
abbrev vi (i : Int) : VV := ⟨false, 0, .int i⟩
abbrev vb (b : Bool) : VV := ⟨false, 0, .bl b⟩
abbrev vs (s : Str) : VV := ⟨false, 0, .str s⟩
abbrev vn : VV := ⟨false, 0, .non⟩

/-- an exception: its class, its fields -/
structure Ex where
  cls : Str
  fs : List (Str × D)

/-- an exception that is held: where it stands, where its fields do -/
def exnD (a d : Nat) (e : Ex) : D := .ins e.cls (("", .int a) :: ("", .int d) :: e.fs)

/-- what an expression comes to: a value and the slots behind (none: nothing was changed); an exception; nothing known -/
inductive R (α : Type) where
  | ok (a : α) (o : Option Env) | ex (e : Ex) (ρ : Env) | no
/-- the slots -/
def now (o : Option Env) (ρ : Env) : Env := match o with | none => ρ | some ρ' => ρ'
@[simp] theorem now_none (ρ : Env) : now none ρ = ρ := (rfl)
@[simp] theorem now_some (ρ ρ' : Env) : now (some ρ') ρ = ρ' := (rfl)
def thn (o o' : Option Env) : Option Env := match o' with | none => o | some ρ => some ρ
@[simp] theorem thn_none (o : Option Env) : thn o none = o := (rfl)
@[simp] theorem thn_some (o : Option Env) (ρ : Env) : thn o (some ρ) = some ρ := (rfl)
@[simp] theorem none_thn (o : Option Env) : thn none o = o := by cases o <;> rfl
namespace R
variable {α β : Type}
abbrev pu (a : α) : R α := .ok a none
abbrev ef (a : α) (ρ : Env) : R α := .ok a (some ρ)
/-- behind an effect -/
def aft (r : R α) (o : Option Env) : R α := match r with
  | .ok a o' => .ok a (thn o o') | .ex e ρ' => .ex e ρ' | .no => .no
@[simp] theorem aft_ok (a : α) (o o' : Option Env) : (R.ok a o').aft o = .ok a (thn o o') := (rfl)
@[simp] theorem aft_ex (e : Ex) (o : Option Env) (ρ' : Env) : (R.ex e ρ' : R α).aft o = .ex e ρ' := (rfl)
@[simp] theorem aft_no (o : Option Env) : (R.no : R α).aft o = .no := (rfl)
@[simp] theorem aft_none (r : R α) : r.aft none = r := by cases r <;> simp
def bind (r : R α) (ρ : Env) (k : α → Env → R β) : R β := match r with
  | .ok a o => (k a (now o ρ)).aft o | .ex e ρ' => .ex e ρ' | .no => .no
@[simp] theorem bind_ok (a : α) (o : Option Env) (ρ : Env) (k : α → Env → R β) : (R.ok a o).bind ρ k = (k a (now o ρ)).aft o := (rfl)
@[simp] theorem bind_ex (e : Ex) (ρ ρ' : Env) (k : α → Env → R β) : (R.ex e ρ' : R α).bind ρ k = .ex e ρ' := (rfl)
@[simp] theorem bind_no (ρ : Env) (k : α → Env → R β) : (R.no : R α).bind ρ k = .no := (rfl)
/-- .. while a value waits: s says that it bears changes -/
def nxt (s : Bool) (r : R α) (k : α → R β) : R β := match r with
  | .ok a o => if (s || o.isNone) = true then (k a).aft o else .no | .ex e ρ' => .ex e ρ' | .no => .no
@[simp] theorem nxt_ok (s : Bool) (a : α) (o : Option Env) (k : α → R β) : (R.ok a o).nxt s k = if (s || o.isNone) = true then (k a).aft o else .no := (rfl)
@[simp] theorem nxt_ex (s : Bool) (e : Ex) (ρ' : Env) (k : α → R β) : (R.ex e ρ' : R α).nxt s k = .ex e ρ' := (rfl)
@[simp] theorem nxt_no (s : Bool) (k : α → R β) : (R.no : R α).nxt s k = .no := (rfl)
def ofO (o : Option α) : R α := match o with | some a => .pu a | none => .no
@[simp] theorem ofO_some (a : α) : ofO (some a) = .pu a := (rfl)
@[simp] theorem ofO_none : (ofO none : R α) = .no := (rfl)
end R

abbrev M := Env → R VV
abbrev MT := Env → R Bool
abbrev MA := Env → R (List VV)

/-! ### slots -/
def look : Env → Nat → Option PV
  | [], _ => none
  | x :: _, 0 => x
  | _ :: r, i + 1 => look r i
def put : Env → Nat → Option PV → Env
  | [], _, _ => []
  | _ :: r, 0, v => v :: r
  | x :: r, i + 1, v => x :: put r i v
@[simp] theorem look_z (x : Option PV) (r : Env) : look (x :: r) 0 = x := (rfl)
@[simp] theorem look_s (x : Option PV) (r : Env) (i : Nat) : look (x :: r) (i + 1) = look r i := (rfl)
@[simp] theorem put_z (x : Option PV) (r : Env) (v : Option PV) : put (x :: r) 0 v = v :: r := (rfl)
@[simp] theorem put_s (x : Option PV) (r : Env) (i : Nat) (v : Option PV) : put (x :: r) (i + 1) v = x :: put r i v := (rfl)

/-! ### expressions -/
def cst (v : VV) : M := fun _ => .pu v
/-- a name -/
def v (i : Nat) : M := fun ρ => match look ρ i with
  | some (m, d) => R.pu ⟨!(m == 0), m, d⟩ | none => R.no
/-- the slots that are named are known as deep as k only, from here on -/
def thin (k : Nat) : List Nat → Env → Env
  | [], ρ => ρ
  | i :: is, ρ => match look ρ i with
    | some (m, d) => thin k is (put ρ i (some (min m k, d)))
    | none => thin k is ρ
def isThin (k : Nat) (is : List Nat) (ρ : Env) : Bool := is.all fun i => match look ρ i with
  | some (m, d) => decide (m ≤ k) || d.imm | none => true
def fz (k : Nat) (is : List Nat) (e : M) : M := fun ρ => if isThin k is ρ = true then e ρ else ((e (thin k is ρ)).aft (some (thin k is ρ)))
/-- an item of what is borrowed or its own -/
def sub (x : VV) (d : D) : VV := ⟨x.b && !(x.m - 1 == 0), x.m - 1, d⟩
/-- a value in which nothing else can be reached -/
def VV.plain (x : VV) : Bool := !x.b && match x.d with
  | .lst ds => x.m == 1 && ds.all D.imm
  | .tup ds => ds.all D.imm
  | d => d.imm
/-- what e comes to, the slots that are named being read as they are -/
def peek (is : List Nat) (e : M) : M := fun ρ => match e (thin 0 is ρ) with
  | .ok x none => if x.plain = true then .pu x else .no
  | _ => .no
/-- .. where that is enough; else they are read as they are from here on -/
def soft (is : List Nat) (e : M) : M := fun ρ => match e (thin 0 is ρ) with
  | .no => .no
  | .ok x none => if x.plain = true then .pu x else fz 0 is e ρ
  | _ => fz 0 is e ρ
/-- two in a row -/
def two (a b : M) (k : VV → VV → Option VV) : M := fun ρ => (a ρ).bind ρ fun x ρ1 => (b ρ1).nxt x.stable fun y => .ofO (k x y)
def one (a : M) (k : VV → Option VV) : M := fun ρ => (a ρ).bind ρ fun x _ => .ofO (k x)
/-- an argument list -/
def args : List M → MA
  | [] => fun _ => .pu []
  | a :: as => fun ρ => (a ρ).bind ρ fun x ρ1 => (args as ρ1).nxt x.stable fun xs => .pu (x :: xs)
def argsk (as : MA) (k : List VV → Option VV) : M := fun ρ => (as ρ).bind ρ fun xs _ => .ofO (k xs)

/-! ### tests -/
def tst (e : M) (tru : D → Option Bool) : MT := fun ρ => (e ρ).bind ρ fun x _ => .ofO (tru x.d)
def blOf : D → Option Bool
  | .bl b => some b | _ => none
@[simp] theorem blOf_bl (b : Bool) : blOf (.bl b) = some b := (rfl)
def tand (a b : MT) : MT := fun ρ => (a ρ).bind ρ fun x ρ1 => if x = true then b ρ1 else .pu false
def tor (a b : MT) : MT := fun ρ => (a ρ).bind ρ fun x ρ1 => if x = true then .pu true else b ρ1
def tnot (a : MT) : MT := fun ρ => (a ρ).bind ρ fun x _ => .pu (!x)
/-- and, or, not as values (of bools) -/
def vand (a b : M) : M := fun ρ => (a ρ).bind ρ fun x ρ1 => match x.d with
  | .bl true => b ρ1 | .bl false => .pu (vb false) | _ => .no
def vor (a b : M) : M := fun ρ => (a ρ).bind ρ fun x ρ1 => match x.d with
  | .bl true => .pu (vb true) | .bl false => b ρ1 | _ => .no
def ift (c : MT) (a b : M) : M := fun ρ => (c ρ).bind ρ fun x ρ1 => if x = true then a ρ1 else b ρ1

/-! ### statements -/
inductive Fl where
  | nx (ρ : Env) | ret (v : PV) (ρ : Env) | brk (ρ : Env) | ct (ρ : Env) | ex (e : Ex) (ρ : Env) | no
abbrev MS := Env → Fl
/-- go on with a value -/
def R.go {α : Type} (r : R α) (ρ : Env) (k : α → Env → Fl) : Fl := match r with
  | .ok a o => k a (now o ρ) | .ex e ρ' => .ex e ρ' | .no => .no
@[simp] theorem go_ok {α : Type} (a : α) (o : Option Env) (ρ : Env) (k : α → Env → Fl) : (R.ok a o).go ρ k = k a (now o ρ) := (rfl)
@[simp] theorem go_ex {α : Type} (e : Ex) (ρ ρ' : Env) (k : α → Env → Fl) : (R.ex e ρ' : R α).go ρ k = .ex e ρ' := (rfl)
@[simp] theorem go_no {α : Type} (ρ : Env) (k : α → Env → Fl) : (R.no : R α).go ρ k = .no := (rfl)
def Fl.seq (f : Fl) (k : MS) : Fl := match f with
  | .nx ρ => k ρ | .ret v ρ => .ret v ρ | .brk ρ => .brk ρ | .ct ρ => .ct ρ | .ex e ρ => .ex e ρ | .no => .no
@[simp] theorem seq_nx (ρ : Env) (k : MS) : (Fl.nx ρ).seq k = k ρ := (rfl)
@[simp] theorem seq_ret (v : PV) (ρ : Env) (k : MS) : (Fl.ret v ρ).seq k = .ret v ρ := (rfl)
@[simp] theorem seq_brk (ρ : Env) (k : MS) : (Fl.brk ρ).seq k = .brk ρ := (rfl)
@[simp] theorem seq_ct (ρ : Env) (k : MS) : (Fl.ct ρ).seq k = .ct ρ := (rfl)
@[simp] theorem seq_ex (e : Ex) (ρ : Env) (k : MS) : (Fl.ex e ρ).seq k = .ex e ρ := (rfl)
@[simp] theorem seq_no (k : MS) : Fl.no.seq k = .no := (rfl)
def skip : MS := fun ρ => .nx ρ
def sq (a b : MS) : MS := fun ρ => (a ρ).seq b
/-- a value that may be kept -/
def VV.kept (x : VV) : Option PV := if x.stable then some (x.m, x.d) else none
@[simp] theorem kept_own (m : Nat) (d : D) : VV.kept ⟨false, m, d⟩ = some (m, d) := (rfl)
@[simp] theorem kept_bint (b : Bool) (m : Nat) (d : D) (h : d.imm = true) : VV.kept ⟨b, m, d⟩ = some (m, d) := by simp [VV.kept, h]
/-- what an assignment's target does with a value -/
abbrev MG := VV → Env → Fl
def gname (i : Nat) : MG := fun x ρ => match x.kept with | some pv => .nx (put ρ i (some pv)) | none => .no
def asg (e : M) (g : MG) : MS := fun ρ => (e ρ).go ρ fun x ρ1 => g x ρ1
def ex (e : M) : MS := fun ρ => (e ρ).go ρ fun _ ρ1 => .nx ρ1
def ret (e : M) : MS := fun ρ => (e ρ).go ρ fun x ρ1 => match x.kept with | some pv => .ret pv ρ1 | none => .no
/-- a local name is handed out -/
def retv (i : Nat) : MS := fun ρ => match look ρ i with
  | some pv => .ret pv (put ρ i none) | none => .no
def retN : MS := fun ρ => .ret (0, .non) ρ
def ifs (c : MT) (a b : MS) : MS := fun ρ => (c ρ).go ρ fun x ρ1 => if x = true then a ρ1 else b ρ1
/-- a target of names -/
def gall : List MG → List VV → Env → Fl
  | [], [], ρ => .nx ρ
  | g :: gs, x :: xs, ρ => (g x ρ).seq fun ρ1 => gall gs xs ρ1
  | _, _, _ => .no
def gtup (gs : List MG) : MG := fun x ρ => match x.d with
  | .tup ds => if x.b = false ∧ ds.length = gs.length then gall gs (ds.map fun d => ⟨false, x.m - 1, d⟩) ρ else .no
  | _ => .no
def par (i j : Nat) (as : MA) : MS := fun ρ => (as ρ).go ρ fun xs ρ1 => match xs with
  | [x, y] => (gname i x ρ1).seq fun ρ2 => gname j y ρ2
  | _ => .no
/-- a loop over what is written out -/
def forL (g : MG) (body : MS) : List D → Env → Fl
  | [], ρ => .nx ρ
  | d :: ds, ρ => match (g ⟨false, 0, d⟩ ρ).seq body with
    | .nx ρ1 => forL g body ds ρ1
    | .ct ρ1 => forL g body ds ρ1
    | .brk ρ1 => .nx ρ1
    | .ret x ρ1 => .ret x ρ1
    | .ex e ρ1 => .ex e ρ1
    | .no => .no
/-- what is walked -/
abbrev MI := Env → R (List D)
def fors (i : MI) (g : MG) (body : MS) : MS := fun ρ => (i ρ).go ρ fun ds ρ1 => forL g body ds ρ1
/-- so many turns of a loop at most -/
def whileN (c : MT) (body : MS) : Nat → Env → Fl
  | 0, _ => .no
  | n + 1, ρ => (c ρ).go ρ fun b ρ1 => if b = true then (match body ρ1 with
      | .nx ρ2 => whileN c body n ρ2 | .ct ρ2 => whileN c body n ρ2 | .brk ρ2 => .nx ρ2
      | .ret x ρ2 => .ret x ρ2 | .ex e ρ2 => .ex e ρ2 | .no => .no) else .nx ρ1
open Classical in
noncomputable def whiles (c : MT) (body : MS) : MS := fun ρ =>
  if h : ∃ n, whileN c body n ρ ≠ .no then whileN c body h.choose ρ else .no
/-! ### what is walked -/
def rng (a b : Int) : List D := (List.range (b - a).toNat).map fun (i : Nat) => D.int (a + (i : Int))
def enumD : Nat → List D → List D
  | _, [] => []
  | n, d :: ds => .tup [.int n, d] :: enumD (n + 1) ds
def zipD : List D → List D → List D
  | d :: ds, e :: es => .tup [d, e] :: zipD ds es
  | _, _ => []
def kL : VV → Option (List D)
  | ⟨b, m, .lst ds⟩ => if b = false ∨ m = 0 then some ds else none
  | _ => none
def kT : VV → Option (List D)
  | ⟨b, m, .tup ds⟩ => if b = false ∨ m ≤ 1 then some ds else none
  | _ => none
def kR1 : List VV → Option (List D)
  | [⟨_, _, .int j⟩] => if -(2 ^ 62) ≤ j ∧ j < 2 ^ 62 then some (rng 0 j) else none
  | _ => none
def kR2 : List VV → Option (List D)
  | [⟨_, _, .int i⟩, ⟨_, _, .int j⟩] => if -(2 ^ 62) ≤ i ∧ i < 2 ^ 62 ∧ -(2 ^ 62) ≤ j ∧ j < 2 ^ 62 then some (rng i j) else none
  | _ => none
def kE : List VV → Option (List D)
  | [⟨b, m, .lst ds⟩] => if b = false ∨ m = 0 then some (enumD 0 ds) else none
  | _ => none
def kZ : List VV → Option (List D)
  | [⟨b, m, .lst ds⟩, ⟨b', m', .lst es⟩] => if (b = false ∨ m = 0) ∧ (b' = false ∨ m' = 0) then some (zipD ds es) else none
  | _ => none
def it1 (k : VV → Option (List D)) (e : M) : MI := fun ρ => (e ρ).bind ρ fun x _ => .ofO (k x)
def itN (k : List VV → Option (List D)) (a : MA) : MI := fun ρ => (a ρ).bind ρ fun xs _ => .ofO (k xs)
/-! ### defs, calls -/
inductive RF where
  | ok (r : PV) (out : Env) | ex (e : Ex) (out : Env) | no
/-- of the slots behind a call: the parameters that were lent -/
def outs : List Bool → Env → Env
  | [], _ => []
  | _ :: bs, [] => none :: outs bs []
  | b :: bs, x :: r => (if b = true then x else none) :: outs bs r
def fnF (lent : List Bool) : Fl → RF
  | .nx ρ => .ok (0, .non) (outs lent ρ)
  | .ret r ρ => .ok r (outs lent ρ)
  | .ex e ρ => .ex e (outs lent ρ)
  | _ => .no
def fnM (n : Nat) (lent : List Bool) (body : MS) (pvs : List PV) : RF := fnF lent (body (pvs.map some ++ List.replicate (n - pvs.length) none))
/-- an argument: a slot that is lent, or a value -/
inductive AK where
  | lend (i : Nat) | val (e : M)
inductive AV where
  | l (i : Nat) | o (pv : PV)
def cargs : List AK → Env → R (List AV)
  | [] => fun _ => .pu []
  | .lend i :: as => fun ρ => match look ρ i with
    | some _ => (cargs as ρ).bind ρ fun xs _ => .pu (.l i :: xs)
    | none => .no
  | .val e :: as => fun ρ => (e ρ).bind ρ fun x ρ1 => match x.kept with
    | some pv => (cargs as ρ1).bind ρ1 fun xs _ => .pu (.o pv :: xs)
    | none => .no
def grab : List AV → Env → Option (List PV × Env)
  | [], ρ => some ([], ρ)
  | .l i :: as, ρ => match look ρ i with
    | some pv => (match grab as (put ρ i none) with | some (pvs, ρ') => some (pv :: pvs, ρ') | none => none)
    | none => none
  | .o pv :: as, ρ => match grab as ρ with | some (pvs, ρ') => some (pv :: pvs, ρ') | none => none
def back : List AV → Env → Env → Env
  | .l i :: as, x :: out, ρ => back as out (put ρ i x)
  | .o _ :: as, _ :: out, ρ => back as out ρ
  | _, _, ρ => ρ
def RF.fin (r : RF) (avs : List AV) (ρ : Env) : R VV := match r with
  | .ok r out => .ef ⟨false, r.1, r.2⟩ (back avs out ρ)
  | .ex e out => .ex e (back avs out ρ)
  | .no => .no
/-- nothing of its own -/
def PV.cold (pv : PV) : Bool := pv.1 == 0 || pv.2.imm
def RF.pure (r : RF) (ρ : Env) : R VV := match r with
  | .ok r _ => .pu ⟨false, r.1, r.2⟩
  | .ex e _ => .ex e ρ
  | .no => .no
/-- no slot's own is lent -/
def AV.quiet (ρ : Env) : AV → Bool
  | .o _ => true
  | .l i => match look ρ i with | some pv => pv.cold | none => false
def callG (f : List PV → RF) (avs : List AV) (ρ : Env) (g : Option (List PV × Env)) : R VV := match g with
  | none => .no
  | some (pvs, ρ2) => if avs.all (AV.quiet ρ) = true then (f pvs).pure ρ else (f pvs).fin avs ρ2
/-- the parameters' order: of what is evaluated, and their own values behind -/
def sel {α : Type} : List Nat → List α → List α
  | [], _ => []
  | i :: is, l => match l[i]? with
    | some x => x :: sel is l
    | none => sel is l
def RF.outBy (js : List Nat) (r : RF) : RF := match r with
  | .ok r out => .ok r (sel js out) | .ex e out => .ex e (sel js out) | .no => .no
/-- by keywords: is, the parameters among what is evaluated; js, the other way -/
def byK (is js : List Nat) (f : List PV → RF) : List PV → RF := fun pvs => (f (sel is pvs)).outBy js
/-- df: the parameters' own values, where no argument is given -/
def call (f : List PV → RF) (df : List PV) (as : List AK) : M := fun ρ => (cargs as ρ).bind ρ fun avs ρ1 => callG f (avs ++ df.map .o) ρ1 (grab (avs ++ df.map .o) ρ1)

/-! ### what operators do -/
def lim : Nat := 16777216
@[irreducible] def big : Nat := 2 ^ 4000
theorem big_eq : big = 2 ^ 4000 := by unfold big; rfl
theorem big_of {n k : Nat} (h : n < 2 ^ k) (hk : k ≤ 4000) : n < big := by rw [big_eq]; exact Nat.lt_of_lt_of_le h (Nat.pow_le_pow_right (by decide) hk)
/-- its items may be kept elsewhere -/
def VV.open (x : VV) : Prop := x.b = false ∨ x.m ≤ 1
instance (x : VV) : Decidable x.open := inferInstanceAs (Decidable (_ ∨ _))
def kAdd (x y : VV) : Option VV := match x.d, y.d with
  | .int i, .int j => some (vi (i + j))
  | .str a, .str b => if a.length + b.length ≤ lim then some (vs (a ++ b)) else none
  | .lst l, .lst k => if x.open ∧ y.open ∧ l.length + k.length ≤ lim then some ⟨false, 1, .lst (l ++ k)⟩ else none
  | _, _ => none
def kSub (x y : VV) : Option VV := match x.d, y.d with
  | .int i, .int j => some (vi (i - j))
  | _, _ => none
def kMul (x y : VV) : Option VV := match x.d, y.d with
  | .int i, .int j => if (i.natAbs < big ∧ j.natAbs < big) ∨ j.natAbs < 18446744073709551616 then some (vi (i * j)) else none
  | .lst l, .int k => if (x.b = false ∧ 0 < x.m) ∧ -(2 ^ 63) ≤ k ∧ k < 2 ^ 63 ∧ l.length * k.toNat ≤ lim then some ⟨false, 1, .lst (List.replicate k.toNat l).flatten⟩ else none
  | _, _ => none
def kMulS (x y : VV) : Option VV := match x.d, y.d with
  | .int i, .int j => if -(2 ^ 60) ≤ i ∧ i ≤ 2 ^ 60 then some (vi (i * j)) else none
  | _, _ => none
def kDiv (x y : VV) : Option VV := match x.d, y.d with
  | .int i, .int j => if 0 < j ∧ j.natAbs < big then some (vi (i / j)) else none
  | _, _ => none
def kMod (x y : VV) : Option VV := match x.d, y.d with
  | .int i, .int j => if 0 < j then some (vi (i % j)) else none
  | _, _ => none
def kPow (x y : VV) : Option VV := match x.d, y.d with
  | .int i, .int j => if i.natAbs < big ∧ 0 ≤ j ∧ j ≤ 100 then some (vi (i ^ j.toNat)) else none
  | _, _ => none
def kBit (φ : Int → Int → Int) (x y : VV) : Option VV := match x.d, y.d with
  | .int i, .int j => some (vi (φ i j))
  | _, _ => none
def kNot (x : VV) : Option VV := match x.d with
  | .bl b => some (vb (!b)) | _ => none
def kNeg (x : VV) : Option VV := match x.d with
  | .int i => some (vi (-i)) | _ => none
def kCmp (f : Int → Int → Bool) (x y : VV) : Option VV := match x.d, y.d with
  | .int i, .int j => some (vb (f i j))
  | _, _ => none
def kLt : VV → VV → Option VV := kCmp fun i j => decide (i < j)
def kLe : VV → VV → Option VV := kCmp fun i j => decide (i ≤ j)
def kGt : VV → VV → Option VV := kCmp fun i j => decide (j < i)
def kGe : VV → VV → Option VV := kCmp fun i j => decide (j ≤ i)
/-- may be compared -/
def D.shp (d : D) : Bool := d.flat && PySem.SeqAt.shaped d.py
def D.eqv (d e : D) : Bool := PyData.eqv d.py e.py
/-- texts are compared whatever they hold -/
def strs2 : D → D → Option Bool
  | .str a, .str b => some (decide (a = b))
  | _, _ => none
def kEq (x y : VV) : Option VV := match strs2 x.d y.d with
  | some b => some (vb b)
  | none => if x.d.shp = true ∧ y.d.shp = true then some (vb (x.d.eqv y.d)) else none
def kNe (x y : VV) : Option VV := match strs2 x.d y.d with
  | some b => some (vb (!b))
  | none => if x.d.shp = true ∧ y.d.shp = true then some (vb (!x.d.eqv y.d)) else none
def kIn (x y : VV) : Option VV := match y.d with
  | .tup l => if x.d.shp = true ∧ y.d.shp = true then some (vb (l.any fun z => z.eqv x.d)) else none
  | .lst l => if x.d.shp = true ∧ y.d.shp = true then some (vb (l.any fun z => z.eqv x.d)) else none
  | _ => none
def kNotIn (x y : VV) : Option VV := match y.d with
  | .tup l => if x.d.shp = true ∧ y.d.shp = true then some (vb (!l.any fun z => z.eqv x.d)) else none
  | .lst l => if x.d.shp = true ∧ y.d.shp = true then some (vb (!l.any fun z => z.eqv x.d)) else none
  | _ => none
def D.isNon : D → Bool
  | .non => true | _ => false
def kIs (x y : VV) : Option VV := match y.d with
  | .non => some (vb x.d.isNon)
  | .bl b => (match x.d with | .bl a => some (vb (decide (a = b))) | _ => none)
  | _ => none
def kIsNot (x y : VV) : Option VV := match y.d with
  | .non => some (vb (!x.d.isNon))
  | .bl b => (match x.d with | .bl a => some (vb (!decide (a = b))) | _ => none)
  | _ => none
def nix (n : Nat) (i : Int) : Option Nat := if 0 ≤ i then (if i < n then some i.toNat else none) else if -(n : Int) ≤ i then some (i + n).toNat else none
def atD (l : List D) (i : Int) : Option D := (nix l.length i).bind fun j => l[j]?
def kIx (x y : VV) : Option VV := match x.d, y.d with
  | .lst l, .int i => (atD l i).map (sub x)
  | .tup l, .int i => (atD l i).map (sub x)
  | .str z, .int i => if z.length ≤ lim then ((nix z.cps.toList.length i).bind fun j => z.cps.toList[j]?).map fun c => vs ⟨#[c]⟩ else none
  | _, _ => none
def six (n d : Nat) : Option Int → Nat
  | none => d
  | some v => if v < 0 then (v + (n : Int)).toNat else min v.toNat n
def cutD {α : Type} (l : List α) (lo hi : Option Int) : List α := (l.drop (six l.length 0 lo)).take (six l.length l.length hi - six l.length 0 lo)
/-- a slice: lower, upper place, where there is one -/
def kSl (x : VV) (lo hi : Option Int) : Option VV := match x.d with
  | .lst l => if x.open then some ⟨false, 1, .lst (cutD l lo hi)⟩ else none
  | _ => none
def kRev (x : VV) : Option VV := match x.d with
  | .lst l => if x.open then some ⟨false, 1, .lst l.reverse⟩ else none
  | _ => none
/-- xs[lo:hi] -/
def intOf (x : VV) : Option (Option Int) := match x.d with | .int i => some (some i) | _ => none
def part (o : Option M) : Env → R (Option Int) := match o with
  | none => fun _ => .pu none
  | some e => fun ρ => (e ρ).bind ρ fun y _ => .ofO (intOf y)
def slc (a : M) (lo hi : Option M) : M := fun ρ => (a ρ).bind ρ fun x ρ1 => (part lo ρ1).nxt false fun l => (part hi ρ1).nxt false fun u => .ofO (kSl x l u)
/-! ### displays -/
def minM : List VV → Option Nat
  | [] => none
  | x :: xs => if x.d.imm = true then minM xs else some (match minM xs with | none => x.m | some n => min x.m n)
def dmode (xs : List VV) : Nat := match minM xs with | none => 1 | some n => n + 1
def kLst (xs : List VV) : Option VV := if xs.all VV.stable = true ∧ xs.length ≤ lim then some ⟨false, dmode xs, .lst (xs.map VV.d)⟩ else none
def kTup (xs : List VV) : Option VV := if xs.all VV.stable = true ∧ xs.length ≤ lim then some ⟨false, dmode xs, .tup (xs.map VV.d)⟩ else none
/-! ### built-ins -/
def intsOf : List D → Option (List Int)
  | [] => some []
  | .int i :: r => (intsOf r).map (i :: ·)
  | _ :: _ => none
def blsOf : List D → Option (List Bool)
  | [] => some []
  | .bl i :: r => (blsOf r).map (i :: ·)
  | _ :: _ => none
def kLen : List VV → Option VV
  | [x] => (match x.d with
    | .lst l => some (vi l.length) | .tup l => some (vi l.length) | .str z => if z.length ≤ lim then some (vi z.length) else none | .dic _ l => some (vi l.length) | _ => none)
  | _ => none
def kAbs : List VV → Option VV
  | [x] => (match x.d with | .int i => some (vi (if i < 0 then -i else i)) | _ => none)
  | _ => none
def kInt : List VV → Option VV
  | [x] => (match x.d with | .int i => some (vi i) | .bl b => some (vi (if b = true then 1 else 0)) | _ => none)
  | _ => none
def kMax : List VV → Option VV
  | [x, y] => (match x.d, y.d with | .int i, .int j => some (vi (if j > i then j else i)) | _, _ => none)
  | _ => none
def kMin : List VV → Option VV
  | [x, y] => (match x.d, y.d with | .int i, .int j => some (vi (if j < i then j else i)) | _, _ => none)
  | _ => none
def kAll : List VV → Option VV
  | [x] => (match x.d with | .lst l => (blsOf l).map fun bs => vb (bs.all id) | _ => none)
  | _ => none
def kAny : List VV → Option VV
  | [x] => (match x.d with | .lst l => (blsOf l).map fun bs => vb (bs.any id) | _ => none)
  | _ => none
def kSum : List VV → Option VV
  | [x] => (match x.d with | .lst l => (intsOf l).map fun bs => vi bs.sum | _ => none)
  | _ => none
def sortI (l : List Int) : List Int := l.mergeSort fun a b => decide (a ≤ b)
def kSorted : List VV → Option VV
  | [x] => (match x.d with | .lst l => (intsOf l).bind fun bs => if bs.length < 64 then some ⟨false, 1, .lst (dints (sortI bs))⟩ else none | _ => none)
  | _ => none
def kList : List VV → Option VV
  | [x] => (match x.d with | .lst l => if x.open then some ⟨false, 1, .lst l⟩ else none | .tup l => if x.open then some ⟨false, 1, .lst l⟩ else none | _ => none)
  | _ => none
def kTuple : List VV → Option VV
  | [x] => (match x.d with | .lst l => if x.open then some ⟨false, 1, .tup l⟩ else none | _ => none)
  | _ => none
/-- list(range(a)) -/
def kRange : List VV → Option VV
  | [x] => (match x.d with | .int j => if -(2 ^ 62) ≤ j ∧ j ≤ 16777216 then some ⟨false, 1, .lst (rng 0 j)⟩ else none | _ => none)
  | _ => none
/-- may be written -/
def D.shw (d : D) : Bool := d.flat && d.py.showable && decide (d.py.shown.length ≤ lim) && decide (d.py.depth ≤ 60)
/-- a dict of plain things may be written -/
def D.shwK : D → Bool
  | .dic false l => (l.all fun p => (match p.1 with | .int _ => true | .str _ => true | _ => false) && p.2.imm) && (D.dic false l).py.showable && decide ((D.dic false l).py.shown.length ≤ lim) && decide ((D.dic false l).py.depth ≤ 60)
  | _ => false
def kRepr : List VV → Option VV
  | [x] => if x.d.shw = true then some (vs x.d.py.shown) else if x.d.shwK = true then some (vs x.d.py.shown) else none
  | _ => none
/-- the kinds that isinstance is asked for -/
inductive Ty where | int | bool | str | list | tuple | dict
def Ty.nm : Ty → String
  | .int => "int" | .bool => "bool" | .str => "str" | .list => "list" | .tuple => "tuple" | .dict => "dict"
def D.isTy (t : Ty) : D → Option Bool
  | .int _ => some (match t with | .int => true | _ => false)
  | .bl _ => some (match t with | .int => true | .bool => true | _ => false)
  | .str _ => some (match t with | .str => true | _ => false)
  | .non => some false
  | .lst _ => some (match t with | .list => true | _ => false)
  | .tup _ => some (match t with | .tuple => true | _ => false)
  | .dic _ _ => some (match t with | .dict => true | _ => false)
  | .ins _ _ => none
def kIsi (t : Ty) (x : VV) : Option VV := (x.d.isTy t).map vb
/-! ### a comprehension -/
def wipeE (own : List Nat) (ρ : Env) : Env := own.foldl (fun r j => put r j none) ρ
def compL (own : List Nat) (g : MG) (cs : MT) (e : M) : List D → Env → List VV → R (List VV)
  | [], _, acc => .pu acc
  | d :: ds, ρ, acc => match g ⟨false, 0, d⟩ ρ with
    | .nx ρ1 => (match cs ρ1 with
      | .ok false o1 => (compL own g cs e ds (now (o1.map (wipeE own)) ρ) acc).aft (o1.map (wipeE own))
      | .ok true o1 => (match e (now o1 ρ1) with
        | .ok x o2 => if x.stable = true then (compL own g cs e ds (now ((thn o1 o2).map (wipeE own)) ρ) (acc ++ [x])).aft ((thn o1 o2).map (wipeE own)) else .no
        | _ => .no)
      | _ => .no)
    | _ => .no
def compF (r : R (List VV)) : R VV := match r with
  | .ok xs o => (R.ofO (kLst xs)).aft o
  | _ => .no
/-! ### methods of lists in a slot -/
/-- a method's call: the arguments first, then what is done to the slot -/
def recv (i : Nat) (as : MA) (k : PV → List VV → Option (VV × PV)) : M := fun ρ => match look ρ i with
  | some (_, .lst _) => (as ρ).bind ρ fun xs ρ1 => (match look ρ1 i with
    | some pv => (match k pv xs with | some (r, pv') => .ef r (put ρ1 i (some pv')) | none => .no)
    | none => .no)
  | _ => .no
/-- .. of an item of a slot -/
def itemOf (b : R VV) (m : Nat) (l : List D) : Option (Nat × List D) := match b with
  | .ok ⟨_, _, .int j⟩ none => (match nix l.length j with
    | some j => (match l[j]? with | some (.lst l2) => some (j, l2) | _ => none)
    | none => none)
  | _ => none
def recvI (i : Nat) (b : M) (as : MA) (k : PV → List VV → Option (VV × PV)) : M := fun ρ => match look ρ i with
  | some (m + 1, .lst l) => (match itemOf (b ρ) m l with
    | some (j, l2) => (match as ρ with
      | .ok xs none => (match k (m, .lst l2) xs with
        | some (r, pv') => if pv'.1 ≤ m then .ef r (put ρ i (some (pv'.1 + 1, .lst (l.set j pv'.2)))) else .no
        | none => .no)
      | _ => .no)
    | none => .no)
  | _ => .no
def rAppend (pv : PV) (xs : List VV) : Option (VV × PV) := match pv, xs with
  | (m + 1, .lst l), [x] => if x.stable = true ∧ l.length < lim then some (vn, ((if x.d.imm = true then m else min m x.m) + 1, .lst (l ++ [x.d]))) else none
  | _, _ => none
def rPopAt (pv : PV) (xs : List VV) : Option (VV × PV) := match pv, xs with
  | (m + 1, .lst l), [⟨_, _, .int i⟩] => if l.length ≤ lim then (nix l.length i).bind fun j => l[j]?.map fun d => (⟨false, m, d⟩, (m + 1, .lst (l.eraseIdx j))) else none
  | _, _ => none
def rPop (pv : PV) (xs : List VV) : Option (VV × PV) := match pv, xs with
  | (m + 1, .lst l), [] => l[l.length - 1]?.map fun d => (⟨false, m, d⟩, (m + 1, .lst l.dropLast))
  | _, _ => none
/-- an item by a name's place, asked behind the index -/
def ixv (i : Nat) (b : M) : M := fun ρ => (b ρ).bind ρ fun y ρ1 => match look ρ1 i with
  | some (m, d) => .ofO (kIx ⟨true, m, d⟩ y)
  | none => .no
/-- x[i] = .. of a list in a slot -/
def gset (i : Nat) (b : M) : MG := fun x ρ => match look ρ i with
  | none => .no
  | some _ => (b ρ).go ρ fun y ρ1 => match look ρ1 i, y.d with
    | some (m + 1, .lst l), .int k => if x.stable = true then (match nix l.length k with
        | some j => .nx (put ρ1 i (some ((if x.d.imm = true then m else min m x.m) + 1, .lst (l.set j x.d))))
        | none => .no) else .no
    | _, _ => .no

/-- xs.count(i) of ints -/
def kCount (x : VV) (xs : List VV) : Option VV := match x.d, xs with
  | .lst l, [⟨_, _, .int i⟩] => (intsOf l).map fun ns => vi (ns.count i : Nat)
  | _, _ => none
/-- xs.index(y) -/
def kIndex (x : VV) (xs : List VV) : Option VV := match x.d, xs with
  | .lst l, [y] => if x.d.shp = true ∧ y.d.shp = true then (match l.findIdx? fun z => z.eqv y.d with
      | some j => some (vi (j : Nat)) | none => none) else none
  | _, _ => none
/-- o.m(a, ..) that changes nothing -/
def meth (ty : D → Bool) (o : M) (as : MA) (k : VV → List VV → Option VV) : M := fun ρ => (o ρ).bind ρ fun x ρ1 => if ty x.d = true then (as ρ1).nxt x.stable fun xs => .ofO (k x xs) else .no
def isL : D → Bool
  | .lst _ => true | _ => false
/-- a op b op' c -/
def chain (a b c : M) (φ ψ : Int → Int → Bool) : M := fun ρ => (a ρ).bind ρ fun x ρ1 => (b ρ1).bind ρ1 fun y ρ2 => match x.d, y.d with
  | .int i, .int j => if φ i j = true then (c ρ2).bind ρ2 fun w _ => (match w.d with | .int k => .pu (vb (ψ j k)) | _ => .no) else .pu (vb false)
  | _, _ => .no
def comp (i : MI) (g : MG) (cs : MT) (e : M) (own : List Nat) : M := fun ρ => (i ρ).bind ρ fun ds ρ1 => compF (compL own g cs e ds (wipeE own ρ1) [])
def yes : MT := fun _ => .pu true
end Vs
set_option maxHeartbeats 4000000
/-! dicts whose keys are tuples of numbers, bools, None and such tuples, nested -/
namespace Vs
open PySem (Str PyData NestedKey)
mutual
/-- the key that d is -/
def nk : D → Option NestedKey
  | .non => some .none
  | .bl b => some (.num (if b = true then 1 else 0))
  | .int i => some (.num i)
  | .tup l => (match nkAll l with | some ks => some (.tup ks) | none => none)
  | .str _ => none | .lst _ => none | .dic _ _ => none | .ins _ _ => none
def nkAll : List D → Option (List NestedKey)
  | [] => some []
  | d :: ds => (match nk d, nkAll ds with | some k, some ks => some (k :: ks) | _, _ => none)
end
def isTupD : D → Bool
  | .tup _ => true | _ => false
/-- the key that a tuple is, not too deep -/
def keyN (d : D) : Option NestedKey := match nk d with
  | some k => if isTupD d = true ∧ k.depth ≤ 8 then some k else none
  | none => none
theorem keyN_some {d : D} {k : NestedKey} (h : keyN d = some k) : nk d = some k ∧ isTupD d = true ∧ k.depth ≤ 8 := by
  unfold keyN at h
  cases q : nk d with
  | none => rw [q] at h; cases h
  | some k' =>
    rw [q] at h
    simp only at h
    split at h
    · rename_i c
      obtain rfl := Option.some.inj h
      exact ⟨rfl, c⟩
    · cases h
mutual
/-- its hash, where no text is in it -/
def hash0 : NestedKey → Int
  | .none => PySem.reduceHash 0xFCA86420
  | .num i => PySem.hashInt i
  | .text _ => 0
  | .tup ks => PySem.reduceHash (PySem.Builtin.Tuple.tupleHashOf (hashes0 ks))
def hashes0 : List NestedKey → List Int
  | [] => []
  | k :: ks => hash0 k :: hashes0 ks
end
mutual
theorem hash0_eq (w : PySem.World) : ∀ (d : D) (k : NestedKey), nk d = some k → k.hash w = hash0 k
  | .non, k, h => by rw [nk] at h; obtain rfl := Option.some.inj h; rfl
  | .bl b, k, h => by rw [nk] at h; obtain rfl := Option.some.inj h; rfl
  | .int i, k, h => by rw [nk] at h; obtain rfl := Option.some.inj h; rfl
  | .tup l, k, h => by
    rw [nk] at h
    cases q : nkAll l with
    | none => rw [q] at h; cases h
    | some ks =>
      rw [q] at h
      obtain rfl := Option.some.inj h
      rw [NestedKey.hash, hash0, hashes0_eq w l ks q]
  | .str _, k, h => by rw [nk] at h; cases h
  | .lst _, k, h => by rw [nk] at h; cases h
  | .dic _ _, k, h => by rw [nk] at h; cases h
  | .ins _ _, k, h => by rw [nk] at h; cases h
theorem hashes0_eq (w : PySem.World) : ∀ (l : List D) (ks : List NestedKey), nkAll l = some ks → NestedKey.hashes w ks = hashes0 ks
  | [], ks, h => by rw [nkAll] at h; obtain rfl := Option.some.inj h; rfl
  | d :: ds, ks, h => by
    rw [nkAll] at h
    cases q : nk d with
    | none => rw [q] at h; cases h
    | some k =>
      cases q2 : nkAll ds with
      | none => rw [q, q2] at h; cases h
      | some ks2 =>
        rw [q, q2] at h
        obtain rfl := Option.some.inj h
        rw [NestedKey.hashes, hashes0, hash0_eq w d k q, hashes0_eq w ds ks2 q2]
end
/-- the dict of these pairs, as data -/
def dkN (l : List (D × D)) : D := .ins "#" [("", .lst (l.map (·.1))), ("", .lst (l.map (·.1) ++ l.map (·.2)))]
theorem pairs_ext : ∀ {l l' : List (D × D)}, l.map (·.1) = l'.map (·.1) → l.map (·.2) = l'.map (·.2) → l = l'
  | [], [], _, _ => rfl
  | [], _ :: _, h, _ => by simp at h
  | _ :: _, [], h, _ => by simp at h
  | p :: l, p' :: l', h1, h2 => by
    simp only [List.map_cons, List.cons.injEq] at h1 h2
    rw [pairs_ext h1.2 h2.2, Prod.ext h1.1 h2.1]
theorem dkN_inj {l l' : List (D × D)} (h : dkN l = dkN l') : l = l' := by
  unfold dkN at h
  simp only [D.ins.injEq, List.cons.injEq, Prod.mk.injEq, D.lst.injEq, true_and, and_true] at h
  obtain ⟨h1, h2⟩ := h
  rw [h1] at h2
  exact pairs_ext h1 (List.append_cancel_left h2)
@[simp] theorem imm_dkN {l : List (D × D)} : (dkN l).imm = false := (rfl)
end Vs
set_option maxHeartbeats 4000000
/-! Vs: how trees of data lie in memory. -/
namespace Vs
open PySem PySem.Spec PyProof.Rows L2

/-- a dict's key -/
def kD : Key → D
  | .inl i => .int i
  | .inr x => .str x
def tD (ks : List Key) : D := .tup (ks.map kD)
/-- an exception object as a value: its class, its dict -/
def exvP (cls : Value) (dd : Option Addr) (a : Addr) : Heap → Prop := fun h => ∃ (oe : Obj) (vs : Array Value), h.get? a = some oe ∧ Zc cls dd oe ∧ oe.data = .fields vs
/-- a dict with nested tuples as keys: ks its keys, vs the keys' places and the values -/
def NDo (a : Addr) (ks : List D) (vs : List V) (φ : Heap → Prop) (xs : List (NestedKey × Addr × Value)) (ws : List V) (o : Obj) (es : Array DictEntry) (ep : Nat) : Prop :=
  vs = xs.map (fun x => V.ref x.2.1) ++ ws ∧ ks.map keyN = xs.map (fun x => some x.1) ∧ Vals ws (xs.map (·.2.2)) ∧ (xs.map (·.1)).Nodup ∧ (a == sysModules) = false ∧ xs.length ≤ sizeLine ∧
  o.ExactDict ∧ o.data = .dict es ep ∧ es.toList = xs.map (fun x => ⟨hash0 x.1, .ref x.2.1, x.2.2⟩) ∧ φ = fun h => h.get? a = some o
/-- what stands at a is told by t: an exception object without a dict, or with one; vs: what it holds -/
def GX (a : Addr) (t : D) (vs : List V) (φ : Heap → Prop) : Prop :=
  (∃ C : Addr, t = .str (cOf C) ∧ vs = [] ∧ ∀ h, φ h → exvP (.ref C) none a h) ∨ (∃ C d : Addr, t = .str (cOf C) ∧ vs = [.ref d] ∧ ∀ h, φ h → exvP (.ref C) (some d) a h) ∨ ∃ ks xs ws o es ep, t = .lst ks ∧ NDo a ks vs φ xs ws o es ep
def gxD (t : D) (ds : List D) : D := .ins "#" [("", t), ("", .lst ds)]
def xdD (fs : List (Str × D)) : D := .ins "@" (("", .non) :: fs)
mutual
/-- v stands for d at the heap H: S are the addresses that stay as they are, the last list the ones that are its own, down to the depth told -/
inductive Rp (K : PySem.W.Frag) (S : Addr → Prop) (H : Hp) : Nat → V → D → List Addr → Prop
  | non (m : Nat) : Rp K S H m .non .non []
  | bl (m : Nat) (b : Bool) : Rp K S H m (.bl b) (.bl b) []
  | int (m : Nat) (i : Int) : Rp K S H m (.int i) (.int i) []
  | str (m : Nat) (x : Str) : Rp K S H m (.str x) (.str x) []
  | lst0 {a : Addr} {xs : List V} {ds : List D} : Rd H a (.lst xs) → S a → RpAll K S H 0 xs ds [] → Rp K S H 0 (.ref a) (.lst ds) []
  | lstK {a : Addr} {xs : List V} {ds : List D} : SqL K (fun _ => none) a xs → RpAll K S H 0 xs ds [] → Rp K S H 0 (.ref a) (.lst ds) []
  | lst1 {m : Nat} {a : Addr} {xs : List V} {ds : List D} {f : List Addr} : H a = some (.lst xs) → RpAll K S H m xs ds f → Rp K S H (m + 1) (.ref a) (.lst ds) (a :: f)
  | tup0 {a : Addr} {xs : List V} {ds : List D} : H a = some (.tup xs) → RpAll K S H 0 xs ds [] → Rp K S H 0 (.ref a) (.tup ds) []
  | tup1 {m : Nat} {a : Addr} {xs : List V} {ds : List D} {f : List Addr} : H a = some (.tup xs) → RpAll K S H m xs ds f → Rp K S H (m + 1) (.ref a) (.tup ds) f
  | dk0 {a : Addr} {kvs : List (Key × V)} {ds : List D} : Rd H a (.dK kvs) → S a → RpAll K S H 0 (kvs.map (·.2)) ds [] → Rp K S H 0 (.ref a) (.dic false ((kvs.map fun p => kD p.1).zip ds)) []
  | dk1 {m : Nat} {a : Addr} {kvs : List (Key × V)} {ds : List D} {f : List Addr} : H a = some (.dK kvs) → RpAll K S H m (kvs.map (·.2)) ds f → Rp K S H (m + 1) (.ref a) (.dic false ((kvs.map fun p => kD p.1).zip ds)) (a :: f)
  | dt0 {a : Addr} {kvs : List (List Key × V)} {ds : List D} : H a = some (.dT kvs) → S a → RpAll K S H 0 (kvs.map (·.2)) ds [] → Rp K S H 0 (.ref a) (.dic true ((kvs.map fun p => tD p.1).zip ds)) []
  | dt1 {m : Nat} {a : Addr} {kvs : List (List Key × V)} {ds : List D} {f : List Addr} : H a = some (.dT kvs) → RpAll K S H m (kvs.map (·.2)) ds f → Rp K S H (m + 1) (.ref a) (.dic true ((kvs.map fun p => tD p.1).zip ds)) (a :: f)
  | ob0 {a dx C : Addr} {fs : List (Str × D)} {ws : List V} : H a = some (.ins C dx ((fs.map (·.1)).zip ws)) → S a → objD (cOf C) fs = true → RpAll K S H 0 ws (fs.map (·.2)) [] → Rp K S H 0 (.ref a) (.ins (cOf C) fs) []
  | ob1 {m : Nat} {a dx C : Addr} {fs : List (Str × D)} {ws : List V} {f : List Addr} : H a = some (.ins C dx ((fs.map (·.1)).zip ws)) → objD (cOf C) fs = true → RpAll K S H m ws (fs.map (·.2)) f → Rp K S H (m + 1) (.ref a) (.ins (cOf C) fs) (a :: f)
  | exn0 (m : Nat) (a d : Addr) (c : Str) : Rp K S H m (.ref a) (.ins c [("", .int a), ("", .int d)]) []
  | anyR (m : Nat) (a : Addr) : Rp K S H m (.ref a) (.ins "?" []) []
  | exn1 {m : Nat} {a d : Addr} {c : Str} {fs : List (Str × D)} {ws : List V} : H d = some (.xd ((fs.map (·.1)).zip ws)) → S d → RpAll K S H 0 ws (fs.map (·.2)) [] → Rp K S H m (.ref a) (.ins c (("", .int a) :: ("", .int d) :: fs)) []
  | gx0 {a : Addr} {φ : Heap → Prop} {t : D} {vs : List V} {ds : List D} : H a = some (.ext φ) → S a → GX a t vs φ → RpAll K S H 0 vs ds [] → Rp K S H 0 (.ref a) (.ins "#" [("", t), ("", .lst ds)]) []
  | gx1 {m : Nat} {a : Addr} {φ : Heap → Prop} {t : D} {vs : List V} {ds : List D} {f : List Addr} : H a = some (.ext φ) → GX a t vs φ → RpAll K S H m vs ds f → Rp K S H (m + 1) (.ref a) (.ins "#" [("", t), ("", .lst ds)]) (a :: f)
  | xd0 {m : Nat} {d : Addr} {fs : List (Str × D)} {ws : List V} : H d = some (.xd ((fs.map (·.1)).zip ws)) → S d → RpAll K S H 0 ws (fs.map (·.2)) [] → Rp K S H m (.ref d) (.ins "@" (("", .non) :: fs)) []
inductive RpAll (K : PySem.W.Frag) (S : Addr → Prop) (H : Hp) : Nat → List V → List D → List Addr → Prop
  | nil (m : Nat) : RpAll K S H m [] [] []
  | cons {m : Nat} {v : V} {d : D} {f : List Addr} {vs : List V} {ds : List D} {g : List Addr} : Rp K S H m v d f → RpAll K S H m vs ds g → RpAll K S H m (v :: vs) (d :: ds) (f ++ g)
end

section
variable {K : PySem.W.Frag} {S S' : Addr → Prop} {H H' : Hp}

theorem sqT_keep {a : Addr} {xs : List V} (k : ∀ b o, H b = some o → ¬ Mut (some o) → H' b = some o) (h : SqT K H a xs) : SqT K H' a xs := by
  rcases h with (h | ⟨o, h⟩) | h
  · exact .inl (.inl (k _ _ h fun z => z))
  · exact .inl (.inr ⟨o, k _ _ h fun z => z⟩)
  · exact .inr h
theorem rd_keep {a : Addr} {u : HO} (k : ∀ b o, H b = some o → b = a → H' b = some o) (h : Rd H a u) : Rd H' a u := by
  rcases h with h | ⟨o, h⟩
  · exact .inl (k _ _ h rfl)
  · exact .inr ⟨o, k _ _ h rfl⟩

mutual
theorem Rp.keep (kS : ∀ b o, S b → H b = some o → H' b = some o) (kM : ∀ b o, H b = some o → ¬ Mut (some o) → H' b = some o) (s : ∀ b, S b → S' b) :
    ∀ {m : Nat} {v : V} {d : D} {f : List Addr}, (∀ b o, b ∈ f → H b = some o → H' b = some o) → Rp K S H m v d f → Rp K S' H' m v d f
  | _, _, _, _, _, .non m => .non m
  | _, _, _, _, _, .bl m b => .bl m b
  | _, _, _, _, _, .int m i => .int m i
  | _, _, _, _, _, .str m x => .str m x
  | _, _, _, _, kf, .lst0 h q r => .lst0 (rd_keep (fun b o e z => kS b o (z ▸ q) e) h) (s _ q) (RpAll.keep kS kM s kf r)
  | _, _, _, _, kf, .lstK h r => .lstK h (RpAll.keep kS kM s kf r)
  | _, _, _, _, kf, .lst1 h r => .lst1 (kf _ _ (List.mem_cons_self ..) h) (RpAll.keep kS kM s (fun b o hb => kf b o (List.mem_cons_of_mem _ hb)) r)
  | _, _, _, _, kf, .tup0 h r => .tup0 (kM _ _ h fun z => z) (RpAll.keep kS kM s kf r)
  | _, _, _, _, kf, .tup1 h r => .tup1 (kM _ _ h fun z => z) (RpAll.keep kS kM s kf r)
  | _, _, _, _, kf, .dk0 h q r => .dk0 (rd_keep (fun b o e z => kS b o (z ▸ q) e) h) (s _ q) (RpAll.keep kS kM s kf r)
  | _, _, _, _, kf, .dk1 h r => .dk1 (kf _ _ (List.mem_cons_self ..) h) (RpAll.keep kS kM s (fun b o hb => kf b o (List.mem_cons_of_mem _ hb)) r)
  | _, _, _, _, kf, .dt0 h q r => .dt0 (kS _ _ q h) (s _ q) (RpAll.keep kS kM s kf r)
  | _, _, _, _, kf, .dt1 h r => .dt1 (kf _ _ (List.mem_cons_self ..) h) (RpAll.keep kS kM s (fun b o hb => kf b o (List.mem_cons_of_mem _ hb)) r)
  | _, _, _, _, kf, .ob0 h q oo r => .ob0 (kS _ _ q h) (s _ q) oo (RpAll.keep kS kM s kf r)
  | _, _, _, _, kf, .ob1 h oo r => .ob1 (kf _ _ (List.mem_cons_self ..) h) oo (RpAll.keep kS kM s (fun b o hb => kf b o (List.mem_cons_of_mem _ hb)) r)
  | _, _, _, _, _, .exn0 m a d c => .exn0 m a d c
  | _, _, _, _, _, .anyR m a => .anyR m a
  | _, _, _, _, kf, .exn1 h q r => .exn1 (kS _ _ q h) (s _ q) (RpAll.keep kS kM s kf r)
  | _, _, _, _, kf, .gx0 h q g r => .gx0 (kS _ _ q h) (s _ q) g (RpAll.keep kS kM s kf r)
  | _, _, _, _, kf, .gx1 h g r => .gx1 (kf _ _ (List.mem_cons_self ..) h) g (RpAll.keep kS kM s (fun b o hb => kf b o (List.mem_cons_of_mem _ hb)) r)
  | _, _, _, _, kf, .xd0 h q r => .xd0 (kS _ _ q h) (s _ q) (RpAll.keep kS kM s kf r)
theorem RpAll.keep (kS : ∀ b o, S b → H b = some o → H' b = some o) (kM : ∀ b o, H b = some o → ¬ Mut (some o) → H' b = some o) (s : ∀ b, S b → S' b) :
    ∀ {m : Nat} {v : List V} {d : List D} {f : List Addr}, (∀ b o, b ∈ f → H b = some o → H' b = some o) → RpAll K S H m v d f → RpAll K S' H' m v d f
  | _, _, _, _, _, .nil m => .nil m
  | _, _, _, _, kf, .cons h r => .cons (Rp.keep kS kM s (fun b o hb => kf b o (List.mem_append_left _ hb)) h) (RpAll.keep kS kM s (fun b o hb => kf b o (List.mem_append_right _ hb)) r)
end
theorem Rp.same (e : Same H H') {m : Nat} {v : V} {d : D} {f : List Addr} (h : Rp K S H m v d f) : Rp K S H' m v d f :=
  h.keep (fun b o _ => e b o) (fun b o q _ => e b o q) (fun _ z => z) fun b o _ => e b o
theorem RpAll.same (e : Same H H') {m : Nat} {v : List V} {d : List D} {f : List Addr} (h : RpAll K S H m v d f) : RpAll K S H' m v d f :=
  h.keep (fun b o _ => e b o) (fun b o q _ => e b o q) (fun _ z => z) fun b o _ => e b o
theorem Rp.more (s : ∀ b, S b → S' b) {m : Nat} {v : V} {d : D} {f : List Addr} (h : Rp K S H m v d f) : Rp K S' H m v d f := h.keep (fun _ _ _ e => e) (fun _ _ e _ => e) s fun _ _ _ e => e
theorem RpAll.more (s : ∀ b, S b → S' b) {m : Nat} {v : List V} {d : List D} {f : List Addr} (h : RpAll K S H m v d f) : RpAll K S' H m v d f := h.keep (fun _ _ _ e => e) (fun _ _ e _ => e) s fun _ _ _ e => e
/-- without a place -/
theorem Rp.imm {m : Nat} {v : V} {d : D} {f : List Addr} (h : Rp K S H m v d f) (i : d.imm = true) : f = [] ∧ ∀ S' H' m', Rp K S' H' m' v d [] := by
  cases h <;> first
    | (cases i; done)
    | (refine ⟨rfl, fun S' H' m' => ?_⟩; constructor)
mutual
theorem RpAll.own0 : ∀ {v : List V} {d : List D} {f : List Addr}, RpAll K S H 0 v d f → f = []
  | _, _, _, .nil _ => rfl
  | _, _, _, .cons h r => by
    rw [Rp.own0 h, RpAll.own0 r]
    rfl
theorem Rp.own0 : ∀ {v : V} {d : D} {f : List Addr}, Rp K S H 0 v d f → f = []
  | _, _, _, .non _ => rfl
  | _, _, _, .bl _ _ => rfl
  | _, _, _, .int _ _ => rfl
  | _, _, _, .str _ _ => rfl
  | _, _, _, .lst0 .. => rfl
  | _, _, _, .lstK .. => rfl
  | _, _, _, .tup0 .. => rfl
  | _, _, _, .dk0 .. => rfl
  | _, _, _, .dt0 .. => rfl
  | _, _, _, .ob0 .. => rfl
  | _, _, _, .exn0 .. => rfl
  | _, _, _, .anyR .. => rfl
  | _, _, _, .exn1 .. => rfl
  | _, _, _, .gx0 .. => rfl
  | _, _, _, .xd0 .. => rfl
end
theorem thin_perm {a b a0 a1 b0 b1 : List Addr} (h : a.Perm (a0 ++ a1)) (g : b.Perm (b0 ++ b1)) : (a ++ b).Perm ((a0 ++ b0) ++ (a1 ++ b1)) := by
  refine (h.append g).trans ?_
  rw [List.append_assoc, List.append_assoc]
  refine List.Perm.append_left _ ?_
  rw [← List.append_assoc, ← List.append_assoc]
  exact List.Perm.append_right _ List.perm_append_comm
mutual
/-- known less deep: what was its own below stays as it is from here on -/
theorem Rp.thin : ∀ {m : Nat} {v : V} {d : D} {f : List Addr} (k : Nat), Rp K S H m v d f → ∃ f0 f1, f.Perm (f0 ++ f1) ∧ Rp K (fun x => S x ∨ x ∈ f1) H (min m k) v d f0
  | _, _, _, _, k, .non m => ⟨[], [], .nil, .non _⟩
  | _, _, _, _, k, .bl m b => ⟨[], [], .nil, .bl _ _⟩
  | _, _, _, _, k, .int m i => ⟨[], [], .nil, .int _ _⟩
  | _, _, _, _, k, .str m x => ⟨[], [], .nil, .str _ _⟩
  | _, _, _, _, k, .lst0 h q r => ⟨[], [], .nil, by rw [Nat.zero_min]; exact Rp.more (fun _ => Or.inl) (.lst0 h q r)⟩
  | _, _, _, _, k, .lstK h r => ⟨[], [], .nil, by rw [Nat.zero_min]; exact Rp.more (fun _ => Or.inl) (.lstK h r)⟩
  | _, _, _, _, 0, .lst1 (a := a) h r => by
    obtain ⟨f0, f1, p, q⟩ := RpAll.thin 0 r
    rw [Nat.min_zero] at q ⊢
    obtain ⟨rfl, _⟩ : f0 = [] ∧ True := ⟨RpAll.own0 q, trivial⟩
    refine ⟨[], a :: f1, List.Perm.cons a p, .lst0 (.inl h) (Or.inr (List.mem_cons_self ..)) (RpAll.more (fun b hb => ?_) q)⟩
    exact hb.imp id fun z => List.mem_cons_of_mem _ z
  | _, _, _, _, k + 1, .lst1 (m := m) (a := a) h r => by
    obtain ⟨f0, f1, p, q⟩ := RpAll.thin k r
    rw [Nat.add_min_add_right]
    exact ⟨a :: f0, f1, List.Perm.cons a p, .lst1 h q⟩
  | _, _, _, _, k, .tup0 h r => ⟨[], [], .nil, by rw [Nat.zero_min]; exact Rp.more (fun _ => Or.inl) (.tup0 h r)⟩
  | _, _, _, _, 0, .tup1 h r => by
    obtain ⟨f0, f1, p, q⟩ := RpAll.thin 0 r
    rw [Nat.min_zero] at q ⊢
    obtain ⟨rfl, _⟩ : f0 = [] ∧ True := ⟨RpAll.own0 q, trivial⟩
    exact ⟨[], f1, p, .tup0 h q⟩
  | _, _, _, _, k + 1, .tup1 h r => by
    obtain ⟨f0, f1, p, q⟩ := RpAll.thin k r
    rw [Nat.add_min_add_right]
    exact ⟨f0, f1, p, .tup1 h q⟩
  | _, _, _, _, k, .dk0 h q r => ⟨[], [], .nil, by rw [Nat.zero_min]; exact Rp.more (fun _ => Or.inl) (.dk0 h q r)⟩
  | _, _, _, _, 0, .dk1 (a := a) h r => by
    obtain ⟨f0, f1, p, q⟩ := RpAll.thin 0 r
    rw [Nat.min_zero] at q ⊢
    obtain ⟨rfl, _⟩ : f0 = [] ∧ True := ⟨RpAll.own0 q, trivial⟩
    refine ⟨[], a :: f1, List.Perm.cons a p, .dk0 (.inl h) (Or.inr (List.mem_cons_self ..)) (RpAll.more (fun b hb => ?_) q)⟩
    exact hb.imp id fun z => List.mem_cons_of_mem _ z
  | _, _, _, _, k + 1, .dk1 (m := m) (a := a) h r => by
    obtain ⟨f0, f1, p, q⟩ := RpAll.thin k r
    rw [Nat.add_min_add_right]
    exact ⟨a :: f0, f1, List.Perm.cons a p, .dk1 h q⟩
  | _, _, _, _, k, .dt0 h q r => ⟨[], [], .nil, by rw [Nat.zero_min]; exact Rp.more (fun _ => Or.inl) (.dt0 h q r)⟩
  | _, _, _, _, 0, .dt1 (a := a) h r => by
    obtain ⟨f0, f1, p, q⟩ := RpAll.thin 0 r
    rw [Nat.min_zero] at q ⊢
    obtain ⟨rfl, _⟩ : f0 = [] ∧ True := ⟨RpAll.own0 q, trivial⟩
    refine ⟨[], a :: f1, List.Perm.cons a p, .dt0 h (Or.inr (List.mem_cons_self ..)) (RpAll.more (fun b hb => ?_) q)⟩
    exact hb.imp id fun z => List.mem_cons_of_mem _ z
  | _, _, _, _, k + 1, .dt1 (m := m) (a := a) h r => by
    obtain ⟨f0, f1, p, q⟩ := RpAll.thin k r
    rw [Nat.add_min_add_right]
    exact ⟨a :: f0, f1, List.Perm.cons a p, .dt1 h q⟩
  | _, _, _, _, k, .ob0 h q oo r => ⟨[], [], .nil, by rw [Nat.zero_min]; exact Rp.more (fun _ => Or.inl) (.ob0 h q oo r)⟩
  | _, _, _, _, 0, .ob1 (a := a) h oo r => by
    obtain ⟨f0, f1, p, q⟩ := RpAll.thin 0 r
    rw [Nat.min_zero] at q ⊢
    obtain ⟨rfl, _⟩ : f0 = [] ∧ True := ⟨RpAll.own0 q, trivial⟩
    refine ⟨[], a :: f1, List.Perm.cons a p, .ob0 h (Or.inr (List.mem_cons_self ..)) oo (RpAll.more (fun b hb => ?_) q)⟩
    exact hb.imp id fun z => List.mem_cons_of_mem _ z
  | _, _, _, _, k + 1, .ob1 (m := m) (a := a) h oo r => by
    obtain ⟨f0, f1, p, q⟩ := RpAll.thin k r
    rw [Nat.add_min_add_right]
    exact ⟨a :: f0, f1, List.Perm.cons a p, .ob1 h oo q⟩
  | _, _, _, _, k, .exn0 m a d c => ⟨[], [], .nil, .exn0 _ a d c⟩
  | _, _, _, _, k, .anyR m a => ⟨[], [], .nil, .anyR _ a⟩
  | _, _, _, _, k, .exn1 h q r => ⟨[], [], .nil, .exn1 h (Or.inl q) (RpAll.more (fun _ => Or.inl) r)⟩
  | _, _, _, _, k, .xd0 h q r => ⟨[], [], .nil, .xd0 h (Or.inl q) (RpAll.more (fun _ => Or.inl) r)⟩
  | _, _, _, _, k, .gx0 h q g r => ⟨[], [], .nil, by rw [Nat.zero_min]; exact Rp.more (fun _ => Or.inl) (.gx0 h q g r)⟩
  | _, _, _, _, 0, .gx1 (a := a) h g r => by
    obtain ⟨f0, f1, p, q⟩ := RpAll.thin 0 r
    rw [Nat.min_zero] at q ⊢
    obtain ⟨rfl, _⟩ : f0 = [] ∧ True := ⟨RpAll.own0 q, trivial⟩
    refine ⟨[], a :: f1, List.Perm.cons a p, .gx0 h (Or.inr (List.mem_cons_self ..)) g (RpAll.more (fun b hb => ?_) q)⟩
    exact hb.imp id fun z => List.mem_cons_of_mem _ z
  | _, _, _, _, k + 1, .gx1 (m := m) (a := a) h g r => by
    obtain ⟨f0, f1, p, q⟩ := RpAll.thin k r
    rw [Nat.add_min_add_right]
    exact ⟨a :: f0, f1, List.Perm.cons a p, .gx1 h g q⟩
theorem RpAll.thin : ∀ {m : Nat} {v : List V} {d : List D} {f : List Addr} (k : Nat), RpAll K S H m v d f → ∃ f0 f1, f.Perm (f0 ++ f1) ∧ RpAll K (fun x => S x ∨ x ∈ f1) H (min m k) v d f0
  | _, _, _, _, k, .nil m => ⟨[], [], .nil, .nil _⟩
  | _, _, _, _, k, .cons h r => by
    obtain ⟨f0, f1, p, q⟩ := Rp.thin k h
    obtain ⟨g0, g1, p', q'⟩ := RpAll.thin k r
    refine ⟨f0 ++ g0, f1 ++ g1, thin_perm p p', .cons (Rp.more (fun b hb => hb.imp id fun z => List.mem_append_left _ z) q) (RpAll.more (fun b hb => hb.imp id fun z => List.mem_append_right _ z) q')⟩
end

/-! ### items -/
theorem RpAll.length : ∀ {m : Nat} {v : List V} {d : List D} {f : List Addr}, RpAll K S H m v d f → v.length = d.length
  | _, _, _, _, .nil _ => rfl
  | _, _, _, _, .cons _ r => congrArg (· + 1) (RpAll.length r)
/-- one of them, and the others: what they have of their own -/
theorem RpAll.at : ∀ {m : Nat} {v : List V} {d : List D} {f : List Addr} {i : Nat} {e : D}, RpAll K S H m v d f → d[i]? = some e →
    ∃ u g1 g g2, v[i]? = some u ∧ f = g1 ++ g ++ g2 ∧ Rp K S H m u e g ∧ (∀ u' e' g', Rp K S H m u' e' g' → RpAll K S H m (v.set i u') (d.set i e') (g1 ++ g' ++ g2)) ∧ RpAll K S H m (v.eraseIdx i) (d.eraseIdx i) (g1 ++ g2)
  | _, _, _, _, i, _, .nil _, h => by simp at h
  | m, _, _, _, 0, e, .cons (v := v) (d := d) (f := f) (vs := vs) (ds := ds) (g := g) h r, q => by
    have q' : d = e := by simpa using q
    subst q'
    exact ⟨v, [], f, g, rfl, by simp, h, fun u' e' g' z => by simpa using RpAll.cons z r, by simpa using r⟩
  | m, _, _, _, i + 1, e, .cons (v := v) (d := d) (f := f) (vs := vs) (ds := ds) (g := g) h r, q => by
    obtain ⟨u, g1, g0, g2, a1, a2, a3, a4, a5⟩ := RpAll.at (i := i) r (by simpa using q)
    refine ⟨u, f ++ g1, g0, g2, by simpa using a1, by rw [a2]; simp [List.append_assoc], a3, fun u' e' g' z => ?_, ?_⟩
    · have := RpAll.cons h (a4 u' e' g' z)
      simpa [List.append_assoc] using this
    · have := RpAll.cons h a5
      simpa [List.append_assoc] using this
theorem RpAll.append : ∀ {m : Nat} {v w : List V} {d e : List D} {f g : List Addr}, RpAll K S H m v d f → RpAll K S H m w e g → RpAll K S H m (v ++ w) (d ++ e) (f ++ g)
  | _, _, _, _, _, _, _, .nil _, h => h
  | _, _, _, _, _, _, _, .cons h r, q => by
    have := RpAll.cons h (RpAll.append r q)
    simpa [List.append_assoc] using this
theorem RpAll.get0 {v : List V} {d : List D} {i : Nat} {e : D} (h : RpAll K S H 0 v d []) (q : d[i]? = some e) : ∃ u, v[i]? = some u ∧ Rp K S H 0 u e [] := by
  obtain ⟨u, g1, g, g2, a1, a2, a3, _⟩ := h.at q
  have : g = [] := by
    cases g1 with
    | nil => cases g with
      | nil => rfl
      | cons => simp at a2
    | cons => simp at a2
  subst this
  exact ⟨u, a1, a3⟩
theorem RpAll.cut0 : ∀ {v : List V} {d : List D} {f : List Addr}, RpAll K S H 0 v d f → ∀ n, RpAll K S H 0 (v.take n) (d.take n) [] ∧ RpAll K S H 0 (v.drop n) (d.drop n) []
  | _, _, _, .nil _, n => by
    rw [List.take_nil, List.take_nil, List.drop_nil, List.drop_nil]
    exact ⟨.nil _, .nil _⟩
  | _, _, _, .cons h r, 0 => by
    have e1 := h.own0
    have e2 := r.own0
    subst e1 e2
    exact ⟨.nil _, .cons (f := []) (g := []) h r⟩
  | _, _, _, .cons h r, n + 1 => by
    have e1 := h.own0
    subst e1
    exact ⟨.cons (f := []) (g := []) h (RpAll.cut0 r n).1, (RpAll.cut0 r n).2⟩
/-- dints stand for themselves -/
theorem RpAll.dints : ∀ (m : Nat) (l : List Int), RpAll K S H m (l.map V.int) (dints l) []
  | m, [] => .nil m
  | m, i :: l => .cons (f := []) (g := []) (.int m i) (RpAll.dints m l)
theorem RpAll.of_ints : ∀ {m : Nat} {v : List V} {f : List Addr} {l : List Int}, RpAll K S H m v (Vs.dints l) f → v = l.map V.int ∧ f = []
  | _, _, _, [], h => by
    cases h
    exact ⟨rfl, rfl⟩
  | _, _, _, i :: l, h => by
    cases h with
    | cons h r =>
      cases h
      obtain ⟨e1, e2⟩ := RpAll.of_ints r
      subst e1 e2
      exact ⟨rfl, rfl⟩
/-- read: a list's place, its items -/
theorem Rp.lst {m : Nat} {v : V} {ds : List D} {f : List Addr} (h : Rp K S H m v (.lst ds) f) : ∃ a xs g, v = .ref a ∧ SqL K H a xs ∧ RpAll K S H (m - 1) xs ds g ∧ (m = 0 → g = []) ∧ (m ≠ 0 → H a = some (.lst xs) ∧ f = a :: g) := by
  cases h with
  | lst0 h q r => exact ⟨_, _, _, rfl, .inl h, r, fun _ => rfl, fun z => absurd rfl z⟩
  | lstK h r =>
    refine ⟨_, _, _, rfl, .inr ?_, r, fun _ => rfl, fun z => absurd rfl z⟩
    rcases h with (h | ⟨o, h⟩) | h
    · cases h
    · cases h
    · exact h
  | lst1 h r => exact ⟨_, _, _, rfl, .inl (.inl h), r, fun z => (nomatch z), fun _ => ⟨h, rfl⟩⟩
theorem Rp.tup {m : Nat} {v : V} {ds : List D} {f : List Addr} (h : Rp K S H m v (.tup ds) f) : ∃ a xs, v = .ref a ∧ SqT K H a xs ∧ RpAll K S H (m - 1) xs ds f := by
  cases h with
  | tup0 h r => exact ⟨_, _, rfl, .inl (.inl h), r⟩
  | tup1 h r => exact ⟨_, _, rfl, .inl (.inl h), r⟩
theorem Rp.vint {m : Nat} {v : V} {i : Int} {f : List Addr} (h : Rp K S H m v (.int i) f) : v = .int i := by cases h; rfl
theorem Rp.vbl {m : Nat} {v : V} {i : Bool} {f : List Addr} (h : Rp K S H m v (.bl i) f) : v = .bl i := by cases h; rfl
theorem Rp.vstr {m : Nat} {v : V} {i : Str} {f : List Addr} (h : Rp K S H m v (.str i) f) : v = .str i := by cases h; rfl
theorem Rp.vnon {m : Nat} {v : V} {f : List Addr} (h : Rp K S H m v .non f) : v = .non := by cases h; rfl
mutual
/-- read as the kit's data -/
theorem Rp.dp : ∀ {m : Nat} {v : V} {d : D} {f : List Addr}, d.flat = true → Rp K S H m v d f → Dp K H v d.py
  | _, _, _, _, _, .non m => .non
  | _, _, _, _, _, .bl m b => .bl b
  | _, _, _, _, _, .int m i => .int i
  | _, _, _, _, _, .str m x => .str x
  | _, _, _, _, hf, .lst0 h q r => by rw [D.py]; exact .lst (.inl h) (RpAll.dp (by rwa [D.flat] at hf) r)
  | _, _, _, _, hf, .lstK h r => by
    rw [D.py]
    refine .lst (.inr ?_) (RpAll.dp (by rwa [D.flat] at hf) r)
    rcases h with (h | ⟨o, h⟩) | h
    · cases h
    · cases h
    · exact h
  | _, _, _, _, hf, .lst1 h r => by rw [D.py]; exact .lst (.inl (.inl h)) (RpAll.dp (by rwa [D.flat] at hf) r)
  | _, _, _, _, hf, .tup0 h r => by rw [D.py]; exact .tup (.inl (.inl h)) (RpAll.dp (by rwa [D.flat] at hf) r)
  | _, _, _, _, hf, .tup1 h r => by rw [D.py]; exact .tup (.inl (.inl h)) (RpAll.dp (by rwa [D.flat] at hf) r)
  | _, _, _, _, hf, .dk0 .. => by rw [D.flat] at hf; cases hf
  | _, _, _, _, hf, .dk1 .. => by rw [D.flat] at hf; cases hf
  | _, _, _, _, hf, .dt0 .. => by rw [D.flat] at hf; cases hf
  | _, _, _, _, hf, .dt1 .. => by rw [D.flat] at hf; cases hf
  | _, _, _, _, hf, .ob0 .. => by rw [D.flat] at hf; cases hf
  | _, _, _, _, hf, .ob1 .. => by rw [D.flat] at hf; cases hf
  | _, _, _, _, hf, .exn0 .. => by rw [D.flat] at hf; cases hf
  | _, _, _, _, hf, .anyR .. => by rw [D.flat] at hf; cases hf
  | _, _, _, _, hf, .exn1 .. => by rw [D.flat] at hf; cases hf
  | _, _, _, _, hf, .gx0 .. => by rw [D.flat] at hf; cases hf
  | _, _, _, _, hf, .gx1 .. => by rw [D.flat] at hf; cases hf
  | _, _, _, _, hf, .xd0 .. => by rw [D.flat] at hf; cases hf
theorem RpAll.dp : ∀ {m : Nat} {v : List V} {d : List D} {f : List Addr}, flatAll d = true → RpAll K S H m v d f → DpAll K H v (pyAll d)
  | _, _, _, _, _, .nil m => by rw [pyAll]; exact .nil
  | _, _, _, _, hf, .cons h r => by
    rw [flatAll, Bool.and_eq_true] at hf
    rw [pyAll]
    exact .cons (Rp.dp hf.1 h) (RpAll.dp hf.2 r)
end
end

/-! ### slots -/
/-- the slots' values stand for the slots' data; what is their own, in some order -/
inductive EnvRp (K : PySem.W.Frag) (S : Addr → Prop) (H : Hp) : List (Option V) → Env → List Addr → Prop
  | nil : EnvRp K S H [] [] []
  | dead {x : Option V} {σ : List (Option V)} {ρ : Env} {F : List Addr} : EnvRp K S H σ ρ F → EnvRp K S H (x :: σ) (none :: ρ) F
  | live {v : V} {m : Nat} {d : D} {f : List Addr} {σ : List (Option V)} {ρ : Env} {F G : List Addr} : Rp K S H m v d f → EnvRp K S H σ ρ F → G.Perm (f ++ F) → EnvRp K S H (some v :: σ) (some (m, d) :: ρ) G
section
variable {K : PySem.W.Frag} {S S' : Addr → Prop} {H H' : Hp} {σ : List (Option V)} {ρ : Env} {F G : List Addr}
theorem EnvRp.perm (h : EnvRp K S H σ ρ F) (p : F.Perm G) : EnvRp K S H σ ρ G := by
  induction h generalizing G with
  | nil => rw [← List.Perm.nil_eq p]; exact .nil
  | dead _ ih => exact .dead (ih p)
  | live r e q _ => exact .live r e (p.symm.trans q)
theorem EnvRp.len (h : EnvRp K S H σ ρ F) : σ.length = ρ.length := by
  induction h with
  | nil => rfl
  | dead _ ih => exact congrArg (· + 1) ih
  | live _ _ _ ih => exact congrArg (· + 1) ih
theorem EnvRp.keep (kS : ∀ b o, S b → H b = some o → H' b = some o) (kM : ∀ b o, H b = some o → ¬ Mut (some o) → H' b = some o) (s : ∀ b, S b → S' b) (h : EnvRp K S H σ ρ F)
    (kf : ∀ b o, b ∈ F → H b = some o → H' b = some o) : EnvRp K S' H' σ ρ F := by
  induction h with
  | nil => exact .nil
  | dead _ ih => exact .dead (ih kf)
  | live r e q ih => exact .live (r.keep kS kM s fun b o hb => kf b o (q.mem_iff.mpr (List.mem_append_left _ hb))) (ih fun b o hb => kf b o (q.mem_iff.mpr (List.mem_append_right _ hb))) q
theorem EnvRp.same (e : Same H H') (h : EnvRp K S H σ ρ F) : EnvRp K S H' σ ρ F := h.keep (fun b o _ => e b o) (fun b o q _ => e b o q) (fun _ z => z) fun b o _ => e b o
theorem EnvRp.more (s : ∀ b, S b → S' b) (h : EnvRp K S H σ ρ F) : EnvRp K S' H σ ρ F := h.keep (fun _ _ _ e => e) (fun _ _ e _ => e) s fun _ _ _ e => e
/-- a slot taken out -/
theorem EnvRp.take {i : Nat} {m : Nat} {d : D} (h : EnvRp K S H σ ρ F) (l : look ρ i = some (m, d)) : ∃ v f G, σ[i]? = some (some v) ∧ Rp K S H m v d f ∧ F.Perm (f ++ G) ∧ EnvRp K S H σ (Vs.put ρ i none) G := by
  induction h generalizing i with
  | nil => cases l
  | dead e ih =>
    cases i with
    | zero => cases l
    | succ i =>
      obtain ⟨v, f, G, h1, h2, h3, h4⟩ := ih l
      exact ⟨v, f, G, by simpa using h1, h2, h3, .dead h4⟩
  | live r e q ih =>
    cases i with
    | zero =>
      obtain ⟨rfl, rfl⟩ : _ = m ∧ _ = d := by simpa using l
      exact ⟨_, _, _, rfl, r, q, .dead e⟩
    | succ i =>
      obtain ⟨v, f, G, h1, h2, h3, h4⟩ := ih l
      refine ⟨v, f, _, by simpa using h1, h2, q.trans ?_, .live r h4 (List.Perm.refl _)⟩
      refine (List.Perm.append_left _ h3).trans ?_
      rw [← List.append_assoc, ← List.append_assoc]
      exact List.Perm.append_right _ List.perm_append_comm
/-- a slot's value let go -/
theorem EnvRp.drop (i : Nat) (h : EnvRp K S H σ ρ F) : ∃ f G, F.Perm (f ++ G) ∧ EnvRp K S H σ (Vs.put ρ i none) G := by
  cases e : look ρ i with
  | none =>
    refine ⟨[], F, .refl _, ?_⟩
    have : Vs.put ρ i none = ρ := by
      clear h
      induction ρ generalizing i with
      | nil => rfl
      | cons x r ih =>
        cases i with
        | zero => have e' : x = none := e; subst e'; rfl
        | succ i => show x :: Vs.put r i none = x :: r; rw [ih i e]
    rw [this]
    exact h
  | some pv =>
    obtain ⟨m, d⟩ := pv
    obtain ⟨v, f, G, _, _, h3, h4⟩ := h.take e
    exact ⟨f, G, h3, h4⟩
theorem put_put (ρ : Env) (i : Nat) (x y : Option PV) : Vs.put (Vs.put ρ i x) i y = Vs.put ρ i y := by
  induction ρ generalizing i with
  | nil => rfl
  | cons z r ih => cases i with
    | zero => rfl
    | succ i => show z :: Vs.put (Vs.put r i x) i y = z :: Vs.put r i y; rw [ih]
/-- a slot filled, its value stored -/
theorem EnvRp.fill {i : Nat} {m : Nat} {v : V} {d : D} {f : List Addr} (h : EnvRp K S H σ (Vs.put ρ i none) F) (hi : i < σ.length) (r : Rp K S H m v d f) : EnvRp K S H (σ.set i (some v)) (Vs.put ρ i (some (m, d))) (f ++ F) := by
  generalize hp : Vs.put ρ i none = ρ' at h
  induction h generalizing i ρ with
  | nil => simp at hi
  | dead e ih =>
    cases ρ with
    | nil => cases hp
    | cons x ρ =>
      cases i with
      | zero =>
        obtain ⟨_, rfl⟩ := List.cons.inj hp
        exact .live r e (.refl _)
      | succ i =>
        obtain ⟨rfl, e2⟩ := List.cons.inj hp
        exact .dead (ih (by simpa using hi) e2)
  | live r' e q ih =>
    cases ρ with
    | nil => cases hp
    | cons x ρ =>
      cases i with
      | zero => cases hp
      | succ i =>
        obtain ⟨rfl, e2⟩ := List.cons.inj hp
        refine .live r' (ih (by simpa using hi) e2) ((List.Perm.append_left _ q).trans ?_)
        rw [← List.append_assoc, ← List.append_assoc]
        exact List.Perm.append_right _ List.perm_append_comm
/-- a slot filled whose value is there -/
theorem EnvRp.back {i : Nat} {m : Nat} {v : V} {d : D} {f : List Addr} (h : EnvRp K S H σ (Vs.put ρ i none) F) (hi : σ[i]? = some (some v)) (r : Rp K S H m v d f) : EnvRp K S H σ (Vs.put ρ i (some (m, d))) (f ++ F) := by
  have hl : i < σ.length := (List.getElem?_eq_some_iff.mp hi).1
  have := h.fill hl r
  rwa [show σ.set i (some v) = σ by
    refine List.ext_getElem? fun j => ?_
    by_cases e : i = j
    · subst e; rw [List.getElem?_set_self hl, hi]
    · rw [List.getElem?_set_ne e]] at this
end

/-! ### steps -/
/-- all but what is in F is as it was; what is new was F's or not there -/
structure Step (S : Addr → Prop) (F : List Addr) (H : Hp) (S' : Addr → Prop) (F' : List Addr) (H' : Hp) : Prop where
  keep : ∀ b o, H b = some o → b ∉ F → H' b = some o
  sub : ∀ b, S b → S' b
  newF : ∀ b, b ∈ F' → b ∈ F ∨ H b = none
  newS : ∀ b, S' b → S b ∨ b ∈ F ∨ H b = none
/-- F is whole: each once, each a thing that may change, none of them S's -/
structure Ok (S : Addr → Prop) (H : Hp) (F : List Addr) : Prop where
  nd : F.Nodup
  mu : ∀ b ∈ F, Mut (H b)
  ns : ∀ b ∈ F, ¬ S b
  tr : ∀ b, S b → H b ≠ none
section
variable {K : PySem.W.Frag} {S S' S'' : Addr → Prop} {H H' H'' : Hp} {F F' F'' G : List Addr}
theorem Step.refl : Step S F H S F H := ⟨fun _ _ e _ => e, fun _ z => z, fun _ z => .inl z, fun _ z => .inl z⟩
theorem Step.trans (a : Step S F H S' F' H') (b : Step S' F' H' S'' F'' H'') : Step S F H S'' F'' H'' := by
  have back : ∀ c, H' c = none → c ∈ F ∨ H c = none := fun c e => by
    by_cases hc : c ∈ F
    · exact .inl hc
    · cases q : H c with
      | none => exact .inr rfl
      | some o => rw [a.keep c o q hc] at e; cases e
  refine ⟨fun c o e hc => b.keep c o (a.keep c o e hc) fun z => ?_, fun c z => b.sub c (a.sub c z), fun c z => ?_, fun c z => ?_⟩
  · rcases a.newF c z with q | q
    · exact hc q
    · rw [e] at q; cases q
  · rcases b.newF c z with q | q
    · exact a.newF c q
    · exact back c q
  · rcases b.newS c z with q | q | q
    · exact a.newS c q
    · exact .inr (a.newF c q)
    · exact .inr (back c q)
theorem Step.of_same (e : Same H H') (h : ∀ b ∈ F', b ∈ F ∨ H b = none) : Step S F H S F' H' := ⟨fun b o q _ => e b o q, fun _ z => z, h, fun _ z => .inl z⟩
theorem Step.less (a : Step S F H S' F' H') (h : ∀ b ∈ F'', b ∈ F') : Step S F H S' F'' H' := ⟨a.keep, a.sub, fun b z => a.newF b (h b z), a.newS⟩
/-- with more around -/
theorem Step.wide (a : Step S F H S' F' H') (h : ∀ b ∈ F, b ∈ G) (hf : ∀ b ∈ F'', b ∈ F' ∨ b ∈ G) : Step S G H S' F'' H' :=
  ⟨fun b o e hb => a.keep b o e fun z => hb (h b z), a.sub, fun b z => (hf b z).elim (fun q => (a.newF b q).imp (h b) id) .inl, fun b z => (a.newS b z).imp id (.imp (h b) id)⟩
theorem Ok.perm (h : Ok S H F) (p : F.Perm G) : Ok S H G := ⟨p.nodup_iff.mp h.nd, fun b hb => h.mu b (p.mem_iff.mpr hb), fun b hb => h.ns b (p.mem_iff.mpr hb), h.tr⟩
theorem Ok.sub (h : Ok S H F) (s : G.Sublist F) : Ok S H G := ⟨h.nd.sublist s, fun b hb => h.mu b (s.subset hb), fun b hb => h.ns b (s.subset hb), h.tr⟩
theorem Ok.mem (h : Ok S H F) {b : Addr} (hb : b ∈ F) : H b ≠ none := fun e => by have := h.mu b hb; rw [e] at this; exact this
/-- what lies beside stays -/
theorem Rp.step (st : Step S F H S' F' H') (ok : Ok S H F) {m : Nat} {v : V} {d : D} {f : List Addr} (hf : ∀ b ∈ f, b ∉ F) (h : Rp K S H m v d f) : Rp K S' H' m v d f :=
  h.keep (fun b o hb e => st.keep b o e fun z => ok.ns b z hb) (fun b o e nm => st.keep b o e fun z => nm (e ▸ ok.mu b z)) st.sub fun b o hb e => st.keep b o e (hf b hb)
theorem EnvRp.step (st : Step S F H S' F' H') (ok : Ok S H F) {σ : List (Option V)} {ρ : Env} {f : List Addr} (hf : ∀ b ∈ f, b ∉ F) (h : EnvRp K S H σ ρ f) : EnvRp K S' H' σ ρ f :=
  h.keep (fun b o hb e => st.keep b o e fun z => ok.ns b z hb) (fun b o e nm => st.keep b o e fun z => nm (e ▸ ok.mu b z)) st.sub fun b o hb e => st.keep b o e (hf b hb)
/-- both parts again whole -/
theorem Ok.join (st : Step S F H S' F' H') (ok : Ok S H (G ++ F)) (ok' : Ok S' H' F') : Ok S' H' (G ++ F') := by
  obtain ⟨n1, n2, n3⟩ := List.nodup_append.mp ok.nd
  have kG : ∀ b ∈ G, ∃ o, H b = some o ∧ H' b = some o := fun b hb => by
    cases q : H b with
    | none => exact absurd q (ok.mem (List.mem_append_left _ hb))
    | some o => exact ⟨o, rfl, st.keep b o q fun z => n3 b hb b z rfl⟩
  refine ⟨List.nodup_append.mpr ⟨n1, ok'.nd, fun a ha b hb e => ?_⟩, fun b hb => ?_, fun b hb => ?_, ok'.tr⟩
  · subst e
    rcases st.newF a hb with z | z
    · exact n3 a ha a z rfl
    · exact ok.mem (List.mem_append_left _ ha) z
  · rcases List.mem_append.mp hb with z | z
    · obtain ⟨o, e1, e2⟩ := kG b z
      have := ok.mu b (List.mem_append_left _ z)
      rw [e2]
      rw [e1] at this
      exact this
    · exact ok'.mu b z
  · rcases List.mem_append.mp hb with z | z
    · intro hs
      rcases st.newS b hs with q | q | q
      · exact ok.ns b (List.mem_append_left _ z) q
      · exact n3 b z b q rfl
      · exact ok.mem (List.mem_append_left _ z) q
    · exact ok'.ns b z
end
end Vs
set_option maxHeartbeats 4000000
/-! Vs: the judgements. -/
namespace Vs
open PySem PySem.Spec PyProof.Rows L2
/-- what leaves: its own context is None -/
abbrev Takes (X : Cx) (W : WX) : Prop := L2N.Takes X W
theorem takes0 {X : Cx} : Takes X fun _ _ _ _ => False := fun u s' ⟨_, _, _, _, _, _, _, _, _, _, _, _, _, _, _, _, w⟩ => w.elim

/-- a value on its way, what it has of its own -/
def VOk (K : PySem.W.Frag) (S : Addr → Prop) (H : Hp) (x : VV) (v : V) (f : List Addr) : Prop :=
  if x.b = true then f = [] ∧ ∃ g, Rp K S H x.m v x.d g else Rp K S H x.m v x.d f
def BOk (S : Addr → Prop) (H : Hp) (x b : Bool) (f : List Addr) : Prop := x = b ∧ f = []
inductive VsOk (K : PySem.W.Frag) (S : Addr → Prop) (H : Hp) : List VV → List V → List Addr → Prop
  | nil : VsOk K S H [] [] []
  | cons {x : VV} {v : V} {f : List Addr} {xs : List VV} {vs : List V} {g : List Addr} : VOk K S H x v f → VsOk K S H xs vs g → VsOk K S H (x :: xs) (v :: vs) (f ++ g)
/-- an exception: its class stands at ct of its name; its fields -/
def ExOk (K : PySem.W.Frag) (ct : Str → Addr) (S : Addr → Prop) (H : Hp) (e : Ex) (C : Value) (d : Option Addr) : Prop :=
  C = .ref (ct e.cls) ∧ ((e.fs = [] ∧ d = none) ∨ ∃ dx ws, e.fs ≠ [] ∧ d = some dx ∧ S dx ∧ H dx = some (.xd ((e.fs.map (·.1)).zip ws)) ∧ RpAll K S H 0 ws (e.fs.map (·.2)) [])

section
variable {K : PySem.W.Frag} {S S' : Addr → Prop} {H H' : Hp}
theorem VOk.own {m : Nat} {d : D} {v : V} {f : List Addr} : VOk K S H ⟨false, m, d⟩ v f = Rp K S H m v d f := by
  unfold VOk
  exact if_neg Bool.false_ne_true
theorem VOk.bor {m : Nat} {d : D} {v : V} {f : List Addr} : VOk K S H ⟨true, m, d⟩ v f = (f = [] ∧ ∃ g, Rp K S H m v d g) := by
  unfold VOk
  exact if_pos rfl
theorem VOk.rp {x : VV} {v : V} {f : List Addr} (h : VOk K S H x v f) : ∃ g, Rp K S H x.m v x.d g := by
  unfold VOk at h
  split at h
  · exact h.2
  · exact ⟨_, h⟩
theorem VOk.same (e : Same H H') {x : VV} {v : V} {f : List Addr} (h : VOk K S H x v f) : VOk K S H' x v f := by
  unfold VOk at h ⊢
  split at h
  · rename_i hb
    rw [if_pos hb]
    obtain ⟨h1, g, h2⟩ := h
    exact ⟨h1, g, h2.same e⟩
  · rename_i hb
    rw [if_neg hb]
    exact h.same e
theorem VOk.more (s : ∀ b, S b → S' b) {x : VV} {v : V} {f : List Addr} (h : VOk K S H x v f) : VOk K S' H x v f := by
  unfold VOk at h ⊢
  split at h
  · rename_i hb
    rw [if_pos hb]
    obtain ⟨h1, g, h2⟩ := h
    exact ⟨h1, g, h2.more s⟩
  · rename_i hb
    rw [if_neg hb]
    exact h.more s
theorem VOk.stab {x : VV} {v : V} {f : List Addr} (s : x.stable = true) (h : VOk K S H x v f) : Rp K S H x.m v x.d f := by
  unfold VOk at h
  split at h
  · rename_i hb
    obtain ⟨h1, g, h2⟩ := h
    have hi : x.d.imm = true := by simpa [VV.stable, hb] using s
    subst h1
    exact (h2.imm hi).2 _ _ _
  · exact h
theorem VOk.of_rp {x : VV} {v : V} {f : List Addr} (s : x.stable = true) (h : Rp K S H x.m v x.d f) : VOk K S H x v f := by
  unfold VOk
  split
  · rename_i hb
    have hi : x.d.imm = true := by simpa [VV.stable, hb] using s
    exact ⟨(h.imm hi).1, _, h⟩
  · exact h
theorem VOk.step {F F' : List Addr} (st : Step S F H S' F' H') (ok : Ok S H F) {x : VV} {v : V} {f : List Addr} (hf : ∀ b ∈ f, b ∉ F) (s : x.stable = true) (h : VOk K S H x v f) : VOk K S' H' x v f :=
  .of_rp s ((h.stab s).step st ok hf)
theorem VsOk.same (e : Same H H') {x : List VV} {v : List V} {f : List Addr} (h : VsOk K S H x v f) : VsOk K S H' x v f := by
  induction h with
  | nil => exact .nil
  | cons h _ ih => exact .cons (h.same e) ih
theorem Ok.same (e : Same H H') {F : List Addr} (h : Ok S H F) : Ok S H' F :=
  ⟨h.nd, fun b hb => by
    have := h.mu b hb
    cases q : H b with
    | none => rw [q] at this; exact this.elim
    | some o => rw [e b o q]; rw [q] at this; exact this, h.ns, fun b hb q => by
    cases z : H b with
    | none => exact h.tr b hb z
    | some o => rw [e b o z] at q; cases q⟩
theorem Ok.tail {f F : List Addr} (h : Ok S H (f ++ F)) : Ok S H F := h.sub (List.sublist_append_right _ _)
theorem Ok.head {f F : List Addr} (h : Ok S H (f ++ F)) : Ok S H f := h.sub (List.sublist_append_left _ _)
theorem Ok.apart {f F : List Addr} (h : Ok S H (f ++ F)) : ∀ b ∈ f, b ∉ F := fun b hb z => (List.nodup_append.mp h.nd).2.2 b hb b z rfl
theorem Ok.two {f F : List Addr} (h : Ok S H f) (g : Ok S H F) (d : ∀ b ∈ f, b ∉ F) : Ok S H (f ++ F) :=
  ⟨List.nodup_append.mpr ⟨h.nd, g.nd, fun a ha b hb e => d a ha (e ▸ hb)⟩, fun b hb => (List.mem_append.mp hb).elim (h.mu b) (g.mu b), fun b hb => (List.mem_append.mp hb).elim (h.ns b) (g.ns b), g.tr⟩
end

/-- how far an expression has gone -/
def Fit (o : Option Env) (S : Addr → Prop) (F : List Addr) (H : Hp) (S' : Addr → Prop) (F' f : List Addr) (H' : Hp) : Prop :=
  match o with
  | none => Same H H' ∧ (∀ b, S b → S' b) ∧ (∀ b, S' b → S b ∨ H b = none) ∧ F' = F ∧ ∀ b ∈ f, H b = none
  | some _ => Step S F H S' (f ++ F') H'
/-- what is wanted where an expression comes to r -/
def Good {α β : Type} (K : PySem.W.Frag) (ct : Str → Addr) (Rel : (Addr → Prop) → Hp → α → β → List Addr → Prop) (W : WX) (S : Addr → Prop) (F : List Addr) (H : Hp) (σ : L2.St) (ρ : Env) (r : R α) (Q : β → Hp → Prop) : Prop :=
  match r with
  | .ok a o => ∀ y S' F' H' f, Fit o S F H S' F' f H' → Rel S' H' a y f → EnvRp K S' H' σ (now o ρ) F' → Ok S' H' (f ++ F') → Q y H'
  | .ex e ρ' => ∀ C d S' F' H', Step S F H S' F' H' → EnvRp K S' H' σ ρ' F' → Ok S' H' F' → ExOk K ct S' H' e C d → W C d σ H'
  | .no => False
section
variable {S S1 S2 : Addr → Prop} {F F1 F2 f g h : List Addr} {H H1 H2 : Hp} {o o' : Option Env}
theorem Fit.step (a : Fit o S F H S1 F1 f H1) : Step S F H S1 (f ++ F1) H1 := by
  cases o with
  | none =>
    obtain ⟨e, u1, u2, rfl, n⟩ := a
    exact ⟨fun b o q _ => e b o q, u1, fun b hb => (List.mem_append.mp hb).elim (fun z => .inr (n b z)) .inl, fun b hb => (u2 b hb).imp id .inr⟩
  | some _ => exact a
theorem Fit.nil : Fit none S F H S F [] H := ⟨Same.refl _, fun _ z => z, fun _ z => .inl z, rfl, by simp⟩
/-- one behind the other; f waits, h is left -/
theorem Fit.thn (a : Fit o S F H S1 F1 f H1) (ok : Ok S1 H1 (f ++ F1)) (b : Fit o' S1 F1 H1 S2 F2 g H2) (hh : ∀ b ∈ h, b ∈ f ∨ b ∈ g ∨ H2 b = none) (e : Same H2 H') : Fit (Vs.thn o o') S F H S2 F2 h H' := by
  cases o' with
  | none =>
    obtain ⟨e2, w1, w2, rfl, n2⟩ := b
    cases o with
    | none =>
      obtain ⟨e1, u1, u2, rfl, n1⟩ := a
      refine ⟨(e1.trans e2).trans e, fun b hb => w1 b (u1 b hb), fun b hb => (w2 b hb).elim (u2 b) fun z => .inr (e1.free z), rfl, fun b hb => ?_⟩
      rcases hh b hb with z | z | z
      · exact n1 b z
      · exact e1.free (n2 b z)
      · exact e1.free (e2.free z)
    | some ρ =>
      refine Step.trans a ⟨fun b o q _ => (e2.trans e) b o q, w1, fun b hb => ?_, fun b hb => (w2 b hb).imp id .inr⟩
      rcases List.mem_append.mp hb with z | z
      · rcases hh b z with z | z | z
        · exact .inl (List.mem_append_left _ z)
        · exact .inr (n2 b z)
        · exact .inr (e2.free z)
      · exact .inl (List.mem_append_right _ z)
  | some ρ =>
    refine a.step.trans (Step.trans (F' := g ++ (f ++ F2)) (H' := H2) (S' := S2) (b.wide (fun b hb => List.mem_append_right _ hb) fun b hb => ?_) (Step.of_same e fun b hb => ?_))
    · simp only [List.mem_append] at hb ⊢
      rcases hb with z | z | z
      · exact .inl (.inl z)
      · exact .inr (.inl z)
      · exact .inl (.inr z)
    · rcases List.mem_append.mp hb with z | z
      · rcases hh b z with z | z | z
        · exact .inl (List.mem_append_right _ (List.mem_append_left _ z))
        · exact .inl (List.mem_append_left _ z)
        · exact .inr z
      · exact .inl (List.mem_append_right _ (List.mem_append_right _ z))
/-- what waits and what has come -/
theorem Fit.both (ok : Ok S1 H1 (f ++ F1)) (b : Fit o' S1 F1 H1 S2 F2 g H2) (ok2 : Ok S2 H2 (g ++ F2)) : Ok S2 H2 ((f ++ g) ++ F2) := by
  rw [List.append_assoc]
  exact Ok.join b.step ok ok2
theorem Ok.cut {S : Addr → Prop} {F g h : List Addr} {H H' : Hp} (ok : Ok S H (g ++ F)) (oh : Ok S H' h) (e : Same H H') (hh : ∀ b ∈ h, b ∈ g ∨ H b = none) : Ok S H' (h ++ F) :=
  oh.two (ok.tail.same e) fun b hb z => (hh b hb).elim (fun q => ok.apart b q z) fun q => ok.mem (List.mem_append_right _ z) q
end

/-- an expression comes to what g says -/
structure SE (ct : Str → Addr) (X : Cx) (e : Expr) (g : M) : Prop where
  run : ∀ W, Takes X W → ∃ t, PE X e t ∧ ∀ S F H σ ρ Q, EnvRp X.K S H σ ρ F → Ok S H F → Good X.K ct (VOk X.K) W S F H σ ρ (g ρ) Q → t σ H Q
structure ST (ct : Str → Addr) (X : Cx) (e : Expr) (g : MT) : Prop where
  run : ∀ W, Takes X W → ∃ t, PT X e t ∧ ∀ S F H σ ρ Q, EnvRp X.K S H σ ρ F → Ok S H F → Good X.K ct BOk W S F H σ ρ (g ρ) Q → t σ H Q
structure SW (ct : Str → Addr) (X : Cx) (e : Expr) (g : MT) : Prop where
  run : ∀ W, Takes X W → ∃ t, PW X e t ∧ ∀ S F H σ ρ Q, EnvRp X.K S H σ ρ F → Ok S H F → Good X.K ct BOk W S F H σ ρ (g ρ) Q → t σ H Q
structure SA (ct : Str → Addr) (X : Cx) (es : List Expr) (g : MA) : Prop where
  run : ∀ W, Takes X W → ∃ t, PA X es t ∧ ∀ S F H σ ρ Q, EnvRp X.K S H σ ρ F → Ok S H F → Good X.K ct (VsOk X.K) W S F H σ ρ (g ρ) Q → t σ H Q

/-- nothing that stood was changed: more stays as it is from here on, h is new or was f's -/
structure Grow (S : Addr → Prop) (H : Hp) (f : List Addr) (S' : Addr → Prop) (h : List Addr) (H' : Hp) : Prop where
  same : Same H H'
  sub : ∀ b, S b → S' b
  newS : ∀ b, S' b → S b ∨ b ∈ f ∨ H b = none
  newF : ∀ b ∈ h, b ∈ f ∨ H b = none
theorem Grow.refl {S : Addr → Prop} {H : Hp} {f : List Addr} : Grow S H f S [] H := ⟨Same.refl _, fun _ z => z, fun _ => .inl, by simp⟩
theorem Fit.grow {o : Option Env} {S S2 S' : Addr → Prop} {F F2 g h : List Addr} {H H2 H' : Hp} (t : Fit o S F H S2 F2 g H2) (k : Ok S2 H2 (g ++ F2)) (gr : Grow S2 H2 g S' h H') : Fit o S F H S' F2 h H' := by
  cases o with
  | none =>
    obtain ⟨e, u1, u2, rfl, n⟩ := t
    refine ⟨e.trans gr.same, fun b hb => gr.sub b (u1 b hb), fun b hb => ?_, rfl, fun b hb => ?_⟩
    · rcases gr.newS b hb with z | z | z
      · exact u2 b z
      · exact .inr (n b z)
      · exact .inr (e.free z)
    · rcases gr.newF b hb with z | z
      · exact n b z
      · exact e.free z
  | some _ =>
    have t : Step S F H S2 (g ++ F2) H2 := t
    have bk : ∀ c, H2 c = none → c ∈ F ∨ H c = none := fun c e => by
      by_cases hc : c ∈ F
      · exact .inl hc
      · cases q : H c with
        | none => exact .inr rfl
        | some o => rw [t.keep c o q hc] at e; cases e
    refine ⟨fun b o e hb => gr.same b o (t.keep b o e hb), fun b hb => gr.sub b (t.sub b hb), fun b hb => ?_, fun b hb => ?_⟩
    · rcases List.mem_append.mp hb with z | z
      · rcases gr.newF b z with q | q
        · exact t.newF b (List.mem_append_left _ q)
        · exact bk b q
      · exact t.newF b (List.mem_append_right _ z)
    · rcases gr.newS b hb with z | z | z
      · exact t.newS b z
      · exact .inr (t.newF b (List.mem_append_left _ z))
      · exact .inr (bk b z)
theorem Grow.ok {S2 S' : Addr → Prop} {F2 g h : List Addr} {H2 H' : Hp} (k : Ok S2 H2 (g ++ F2)) (gr : Grow S2 H2 g S' h H') (oh : Ok S' H' h) : Ok S' H' (h ++ F2) := by
  have kt : Ok S2 H' F2 := k.tail.same gr.same
  refine oh.two ⟨kt.nd, kt.mu, fun b hb z => ?_, oh.tr⟩ fun b hb z => ?_
  · rcases gr.newS b z with q | q | q
    · exact k.tail.ns b hb q
    · exact k.apart b q hb
    · exact k.tail.mem hb q
  · rcases gr.newF b hb with q | q
    · exact k.apart b q z
    · exact k.tail.mem z q
/-- a rule of two values does what k says -/
def Op2 (K : PySem.W.Frag) (r : R2) (k : VV → VV → Option VV) : Prop :=
  ∀ S H x v f y u g z Q, VOk K S H x v f → VOk K S H y u g → Ok S H (f ++ g) → k x y = some z →
    (∀ w H' S' h, Grow S H (f ++ g) S' h H' → VOk K S' H' z w h → Ok S' H' h → Q w H') → r v u H Q
def Op1 (K : PySem.W.Frag) (r : V → Hp → VK → Prop) (k : VV → Option VV) : Prop :=
  ∀ S H x v f z Q, VOk K S H x v f → Ok S H f → k x = some z →
    (∀ w H' S' h, Grow S H f S' h H' → VOk K S' H' z w h → Ok S' H' h → Q w H') → r v H Q
def OpN (K : PySem.W.Frag) (r : List V → Hp → VK → Prop) (k : List VV → Option VV) : Prop :=
  ∀ S H xs vs f z Q, VsOk K S H xs vs f → Ok S H f → k xs = some z →
    (∀ w H' S' h, Grow S H f S' h H' → VOk K S' H' z w h → Ok S' H' h → Q w H') → r vs H Q
section
variable {ct : Str → Addr} {X : Cx} {a b e : Expr} {ga gb : M} {r : R2} {k : VV → VV → Option VV}
/-- the end of a rule -/
theorem fin_rule {S S2 : Addr → Prop} {F F2 g : List Addr} {H H2 : Hp} {W : WX} {σ : L2.St} {ρ : Env} {o2 : Option Env} {Q : VK} {o : Option VV} {t : VK → Prop}
    (st : Fit o2 S F H S2 F2 g H2) (E : EnvRp X.K S2 H2 σ (now o2 ρ) F2) (k : Ok S2 H2 (g ++ F2))
    (ho : ∀ z, o = some z → ∀ Q, (∀ w H' S' h, Grow S2 H2 g S' h H' → VOk X.K S' H' z w h → Ok S' H' h → Q w H') → t Q)
    (gd : Good X.K ct (VOk X.K) W S F H σ ρ ((R.ofO o).aft o2) Q) : t Q := by
  cases q : o with
  | none => rw [q] at gd; exact gd.elim
  | some z =>
    rw [q] at gd
    exact ho z q Q fun w H' S' h gr hw oh => gd w S' F2 H' h (st.grow k gr) hw ((E.same gr.same).more gr.sub) (gr.ok k oh)
theorem run_twoG {Pe : TE → Prop} (ha : SE ct X a ga) (hb : SE ct X b gb) (mk : ∀ {ta tb}, PE X a ta → PE X b tb → Pe (tOp r ta tb)) (ho : Op2 X.K r k) :
    ∀ W, Takes X W → ∃ t, Pe t ∧ ∀ S F H σ ρ Q, EnvRp X.K S H σ ρ F → Ok S H F → Good X.K ct (VOk X.K) W S F H σ ρ (two ga gb k ρ) Q → t σ H Q := by
  intro W tk
  obtain ⟨ta, pa, ra⟩ := ha.run W tk
  obtain ⟨tb, pb, rb⟩ := hb.run W tk
  refine ⟨_, mk pa pb, fun S F H σ ρ Q E ok G => ?_⟩
  show ta σ H fun v H1 => tb σ H1 fun u H2 => r v u H2 Q
  refine ra S F H σ ρ _ E ok ?_
  unfold two at G
  cases qa : ga ρ with
  | no => rw [qa] at G; exact G
  | ex x ρ1 => rw [qa] at G; exact G
  | ok x o1 =>
    rw [qa, R.bind_ok] at G
    intro v S1 F1 H1 f t1 h1 E1 k1
    refine rb S1 F1 H1 σ _ _ E1 k1.tail ?_
    cases qb : gb (now o1 ρ) with
    | no => rw [qb] at G; exact G
    | ex x ρ1 =>
      rw [qb] at G
      intro C d S2 F2 H2 st E2 k2 hx
      exact G C d S2 F2 H2 ((t1.step.less fun b hb => List.mem_append_right _ hb).trans st) E2 k2 hx
    | ok y o2 =>
      rw [qb, R.nxt_ok] at G
      intro u S2 F2 H2 g t2 h2 E2 k2
      split at G
      · rename_i hs
        have k3 : Ok S2 H2 ((f ++ g) ++ F2) := Fit.both k1 t2 k2
        have h1' : VOk X.K S2 H2 x v f := by
          cases o2 with
          | none =>
            obtain ⟨e, w1, _, rfl, _⟩ := t2
            exact (h1.same e).more w1
          | some _ => exact h1.step (t2.step.less fun b hb => hb) k1.tail k1.apart (by simpa using hs)
        have ea : ((R.ofO (k x y)).aft o2).aft o1 = (R.ofO (k x y)).aft (Vs.thn o1 o2) := by
          cases k x y with
          | none => rfl
          | some z => cases o2 <;> rfl
        rw [ea] at G
        refine fin_rule (g := f ++ g) (F2 := F2) (S2 := S2) (t := fun Q => r v u H2 Q) (t1.thn k1 t2 (fun b hb => by rw [List.mem_append] at hb; exact hb.imp id .inl) (Same.refl _)) ?_ k3 (fun z hz Q hq => ?_) G
        · have : now (Vs.thn o1 o2) ρ = now o2 (now o1 ρ) := by cases o2 <;> rfl
          rw [this]
          exact E2
        · exact ho S2 H2 x v f y u g z Q h1' h2 k3.head hz hq
      · exact G.elim
theorem run_two (ha : SE ct X a ga) (hb : SE ct X b gb) (mk : ∀ {ta tb}, PE X a ta → PE X b tb → PE X e (tOp r ta tb)) (ho : Op2 X.K r k) : SE ct X e (two ga gb k) := ⟨run_twoG ha hb mk ho⟩
end
section
variable {α β α2 β2 : Type} {K : PySem.W.Frag} {ct : Str → Addr} {Rel : (Addr → Prop) → Hp → α → β → List Addr → Prop} {Rel2 : (Addr → Prop) → Hp → α2 → β2 → List Addr → Prop} {W : WX} {S S1 : Addr → Prop} {F F1 f : List Addr} {H H1 : Hp} {σ : L2.St} {ρ : Env} {r : R α} {Q : β2 → Hp → Prop} {P : β → Hp → Prop} {o : Option Env}
theorem good_bind {k : α → Env → R α2} (G : Good K ct Rel2 W S F H σ ρ (r.bind ρ k) Q)
    (cont : ∀ a o y S1 F1 H1 f, r = .ok a o → Fit o S F H S1 F1 f H1 → Rel S1 H1 a y f → EnvRp K S1 H1 σ (now o ρ) F1 → Ok S1 H1 (f ++ F1) → Good K ct Rel2 W S F H σ ρ ((k a (now o ρ)).aft o) Q → P y H1) : Good K ct Rel W S F H σ ρ r P := by
  cases r with
  | no => exact G
  | ex x ρ1 => exact G
  | ok a o => exact fun y S1 F1 H1 f t h E ok => cont a o y S1 F1 H1 f rfl t h E ok G
theorem good_after {r : R α2} (t : Fit o S F H S1 F1 f H1) (k : Ok S1 H1 (f ++ F1)) (G : Good K ct Rel2 W S F H σ ρ (r.aft o) Q) : Good K ct Rel2 W S1 F1 H1 σ (now o ρ) r Q := by
  cases r with
  | no => exact G
  | ex x ρ1 => exact fun C d S2 F2 H2 st E2 k2 hx => G C d S2 F2 H2 ((t.step.less fun b hb => List.mem_append_right _ hb).trans st) E2 k2 hx
  | ok a o' =>
    intro y S2 F2 H2 g t2 h E2 k2
    refine G y S2 F2 H2 g (t.thn k t2 (fun b hb => .inr (.inl hb)) (Same.refl _)) h ?_ k2
    have : now (Vs.thn o o') ρ = now o' (now o ρ) := by cases o' <;> rfl
    rw [this]
    exact E2
end
theorem aft_aft {α : Type} (r : R α) (o o' : Option Env) : (r.aft o').aft o = r.aft (Vs.thn o o') := by
  cases r with
  | no => rfl
  | ex _ _ => rfl
  | ok a o2 => cases o2 <;> rfl
theorem now_thn (o o' : Option Env) (ρ : Env) : now (Vs.thn o o') ρ = now o' (now o ρ) := by cases o' <;> rfl

section
variable {ct : Str → Addr} {X : Cx} {a b e : Expr} {es : List Expr} {ga gb : M} {gs : MA}
theorem run_one {r : V → Hp → VK → Prop} {k : VV → Option VV} (ha : SE ct X a ga) (mk : ∀ {ta}, PE X a ta → PE X e (fun σ H Q => ta σ H fun x H1 => r x H1 Q)) (ho : Op1 X.K r k) : SE ct X e (one ga k) := by
  refine ⟨fun W tk => ?_⟩
  obtain ⟨ta, pa, ra⟩ := ha.run W tk
  refine ⟨_, mk pa, fun S F H σ ρ Q E ok G => ra S F H σ ρ _ E ok ?_⟩
  refine good_bind G fun x o v S1 F1 H1 f _ t1 h1 E1 k1 G => ?_
  exact fin_rule (g := f) (t := fun Q => r v H1 Q) t1 E1 k1 (fun z hz Q hq => ho S1 H1 x v f z Q h1 k1.head hz hq) G
theorem sa_nil : SA ct X [] (args []) := ⟨fun W tk => ⟨_, pa_nil, fun S F H σ ρ Q E ok G => G [] S F H [] Fit.nil .nil E ok⟩⟩
theorem sa_cons (ha : SE ct X a ga) {as : List M} (hb : SA ct X es (args as)) (hs : starEach (a :: es) X.env = (false, eval a X.env) :: starEach es X.env := by rfl) : SA ct X (a :: es) (args (ga :: as)) := by
  refine ⟨fun W tk => ?_⟩
  obtain ⟨ta, pa, ra⟩ := ha.run W tk
  obtain ⟨tb, pb, rb⟩ := hb.run W tk
  refine ⟨_, pa_cons pa pb hs, fun S F H σ ρ Q E ok G => ra S F H σ ρ _ E ok ?_⟩
  unfold args at G
  refine good_bind G fun x o1 v S1 F1 H1 f _ t1 h1 E1 k1 G => ?_
  refine rb S1 F1 H1 σ _ _ E1 k1.tail ?_
  cases qb : args as (now o1 ρ) with
  | no => rw [qb] at G; exact G
  | ex x ρ1 =>
    rw [qb] at G
    intro C d S2 F2 H2 st E2 k2 hx
    exact G C d S2 F2 H2 ((t1.step.less fun b hb => List.mem_append_right _ hb).trans st) E2 k2 hx
  | ok y o2 =>
    rw [qb, R.nxt_ok] at G
    intro u S2 F2 H2 g t2 h2 E2 k2
    split at G
    · rename_i hs
      have k3 : Ok S2 H2 ((f ++ g) ++ F2) := Fit.both k1 t2 k2
      have h1' : VOk X.K S2 H2 x v f := by
        cases o2 with
        | none =>
          obtain ⟨e, w1, _, rfl, _⟩ := t2
          exact (h1.same e).more w1
        | some _ => exact h1.step (t2.step.less fun b hb => hb) k1.tail k1.apart (by simpa using hs)
      rw [aft_aft] at G
      refine G (v :: u) S2 F2 H2 (f ++ g) ?_ (.cons h1' h2) ?_ k3
      · exact t1.thn k1 t2 (fun b hb => by rw [List.mem_append] at hb; exact hb.imp id .inl) (Same.refl _)
      · rw [thn_none, now_thn]
        exact E2
    · exact G.elim
theorem run_args {r : List V → Hp → VK → Prop} {k : List VV → Option VV} (ha : SA ct X es gs) (mk : ∀ {t}, PA X es t → PE X e (fun σ H Q => t σ H fun vs H1 => r vs H1 Q)) (ho : OpN X.K r k) : SE ct X e (argsk gs k) := by
  refine ⟨fun W tk => ?_⟩
  obtain ⟨ta, pa, ra⟩ := ha.run W tk
  refine ⟨_, mk pa, fun S F H σ ρ Q E ok G => ra S F H σ ρ _ E ok ?_⟩
  refine good_bind G fun x o v S1 F1 H1 f _ t1 h1 E1 k1 G => ?_
  exact fin_rule (g := f) (t := fun Q => r v H1 Q) t1 E1 k1 (fun z hz Q hq => ho S1 H1 x v f z Q h1 k1.head hz hq) G

/-! ### constants, names -/
theorem run_imm {z : VV} (i : z.d.imm = true) {v : V} (hv : ∀ S H, Rp X.K S H z.m v z.d []) (mk : PE X e (tC v)) : SE ct X e (cst z) :=
  ⟨fun W tk => ⟨_, mk, fun S F H σ ρ Q E ok G => G v S F H [] Fit.nil (.of_rp (by simp [VV.stable, i]) (hv S H)) E ok⟩⟩
theorem s_int {i : Int} {j : Nat} {pos : Pos} : SE ct X (.Constant (.int i) j pos) (cst (vi i)) := run_imm rfl (fun _ _ => .int _ _) pe_int
theorem s_bl {i : Bool} {j : Nat} {pos : Pos} : SE ct X (.Constant (.bool i) j pos) (cst (vb i)) := run_imm rfl (fun _ _ => .bl _ _) pe_bl
theorem s_non {j : Nat} {pos : Pos} : SE ct X (.Constant .none j pos) (cst vn) := run_imm rfl (fun _ _ => .non _) pe_non
theorem s_str {x : Str} {j : Nat} {pos : Pos} : SE ct X (.Constant (.str x) j pos) (cst (vs x)) := run_imm rfl (fun _ _ => .str _ _) pe_str
theorem s_glob {z : VV} {x : Str} {pos : Pos} {u : Value} {w : V} (i : z.d.imm = true) (hv : ∀ S H, Rp X.K S H z.m w z.d []) (hg : Gl X x) (hm : X.mg x = some u) (r : RelV w u) (hdb : (x == ("__debug__" : Str)) = false := by decide) : SE ct X (.Name x pos) (cst z) := run_imm i hv (pe_glob hg hm r (hd := hdb))
theorem s_v (i : Nat) {x : Str} {pos : Pos} (hN : X.N[i]? = some x := by rfl) (hv : Vis X.env.scope x := by first | exact Or.inl rfl | exact Or.inr (Or.inl rfl) | exact Or.inr (Or.inr rfl)) (hd : (x == ("__debug__" : Str)) = false := by decide)
    (hcd : (x == ("__classdict__" : Str)) = false := by decide) : SE ct X (.Name x pos) (v i) := by
  refine ⟨fun W tk => ⟨_, pv i hN hv hd hcd, fun S F H σ ρ Q E ok G => ?_⟩⟩
  unfold v at G
  cases q : look ρ i with
  | none => rw [q] at G; exact G.elim
  | some pv =>
    obtain ⟨m, d⟩ := pv
    rw [q] at G
    obtain ⟨v, f, G', h1, h2, _⟩ := E.take q
    refine ⟨v, h1, G v S F H [] Fit.nil ?_ E ok⟩
    cases m with
    | zero =>
      obtain rfl := h2.own0
      show VOk X.K S H ⟨false, 0, d⟩ v []
      rw [VOk.own]
      exact h2
    | succ m =>
      show VOk X.K S H ⟨true, m + 1, d⟩ v []
      rw [VOk.bor]
      exact ⟨rfl, f, h2⟩
/-- slots known less deep -/
theorem thin_env {K : PySem.W.Frag} {S : Addr → Prop} {H : Hp} {σ : L2.St} (k : Nat) : ∀ (is : List Nat) {ρ : Env} {F : List Addr}, EnvRp K S H σ ρ F → Ok S H F →
    ∃ S' F', Step S F H S' F' H ∧ EnvRp K S' H σ (thin k is ρ) F' ∧ Ok S' H F' := by
  intro is
  induction is generalizing S with
  | nil => exact fun E ok => ⟨S, _, Step.refl, E, ok⟩
  | cons i is ih =>
    intro ρ F E ok
    unfold thin
    cases q : look ρ i with
    | none => exact ih E ok
    | some pv =>
      obtain ⟨m, d⟩ := pv
      obtain ⟨v, f, G', h1, h2, p, E'⟩ := E.take q
      obtain ⟨f0, f1, p2, h3⟩ := h2.thin k
      have okp : Ok S H (f ++ G') := ok.perm p
      have p3 : (f ++ G').Perm (f1 ++ (f0 ++ G')) := by
        refine (List.Perm.append_right _ (p2.trans List.perm_append_comm)).trans ?_
        rw [List.append_assoc]
      have okq : Ok S H (f1 ++ (f0 ++ G')) := okp.perm p3
      let S1 : Addr → Prop := fun x => S x ∨ x ∈ f1
      have E1 : EnvRp K S1 H σ (Vs.put ρ i (some (min m k, d))) (f0 ++ G') := EnvRp.back (E'.more fun _ => Or.inl) h1 h3
      have ok1 : Ok S1 H (f0 ++ G') := ⟨okq.tail.nd, okq.tail.mu, fun b hb z => z.elim (okq.tail.ns b hb) fun z => okq.apart b z hb, fun b hb => hb.elim (okq.tr b) fun z => okq.mem (List.mem_append_left _ z)⟩
      have st1 : Step S F H S1 (f0 ++ G') H := ⟨fun _ _ e _ => e, fun _ => Or.inl, fun b hb => .inl ((p.trans p3).mem_iff.mpr (List.mem_append_right _ hb)), fun b hb => hb.imp id fun z => .inl ((p.trans p3).mem_iff.mpr (List.mem_append_left _ z))⟩
      obtain ⟨S', F', st2, E2, ok2⟩ := ih E1 ok1
      exact ⟨S', F', st1.trans st2, E2, ok2⟩
theorem s_fz {k : Nat} {is : List Nat} (ha : SE ct X a ga) : SE ct X a (fz k is ga) := by
  refine ⟨fun W tk => ?_⟩
  obtain ⟨ta, pa, ra⟩ := ha.run W tk
  refine ⟨ta, pa, fun S F H σ ρ Q E ok G => ?_⟩
  unfold fz at G
  by_cases hk : isThin k is ρ = true
  · rw [if_pos hk] at G
    exact ra S F H σ ρ Q E ok G
  · rw [if_neg hk] at G
    obtain ⟨S', F', st, E', ok'⟩ := thin_env k is E ok
    exact ra S' F' H σ _ Q E' ok' (good_after (o := some (thin k is ρ)) (f := []) st ok' G)

/-! ### tests -/
theorem run_tst {tru : D → Option Bool} (ha : SE ct X a ga) {r : V → Hp → (Bool → Hp → Prop) → Prop} (mk : ∀ {ta}, PE X a ta → PT X a (fun σ H Q => ta σ H fun x H1 => r x H1 Q))
    (ho : ∀ S H x v f b Q, VOk X.K S H x v f → tru x.d = some b → Q b H → r v H Q) : ST ct X a (tst ga tru) := by
  refine ⟨fun W tk => ?_⟩
  obtain ⟨ta, pa, ra⟩ := ha.run W tk
  refine ⟨_, mk pa, fun S F H σ ρ Q E ok G => ra S F H σ ρ _ E ok ?_⟩
  refine good_bind G fun x o v S1 F1 H1 f _ t1 h1 E1 k1 G => ?_
  cases q : tru x.d with
  | none => rw [q] at G; exact G.elim
  | some b =>
    rw [q] at G
    exact ho S1 H1 x v f b Q h1 q (G b S1 F1 H1 [] (t1.thn (f := f) (g := []) (o' := none) k1 Fit.nil (fun b hb => absurd hb (by simp)) (Same.refl _)) ⟨rfl, rfl⟩ E1 k1.tail)
theorem t_val (ha : SE ct X a ga) (he : ∀ whole, isTrue a X.env whole = (do let v ← whole; standAt a.pos; holding [v] (truthy v)) := by intro _; rfl) : ST ct X a (tst ga blOf) := by
  refine run_tst (r := fun x H Q => ∃ c, x = .bl c ∧ Q c H) ha (fun pa => pt_val pa he) fun S H x v f b Q h hb q => ?_
  obtain ⟨g, h⟩ := h.rp
  have : x.d = .bl b := by
    cases e : x.d <;> rw [e] at hb <;> simp [blOf] at hb
    rw [hb]
  rw [this] at h
  exact ⟨b, h.vbl, q⟩
variable {ta' tb' : MT} {rest : List Expr} {pos : Pos}
theorem t_not (ha : ST ct X a ta') : ST ct X (.UnaryOp .Not a pos) (tnot ta') := by
  refine ⟨fun W tk => ?_⟩
  obtain ⟨ta, pa, ra⟩ := ha.run W tk
  refine ⟨_, pt_not pa, fun S F H σ ρ Q E ok G => ra S F H σ ρ _ E ok ?_⟩
  refine good_bind G fun x o v S1 F1 H1 f _ t1 h1 E1 k1 G => ?_
  obtain ⟨rfl, rfl⟩ := h1
  exact G _ S1 F1 H1 [] (by rw [thn_none]; exact t1) ⟨rfl, rfl⟩ E1 k1
theorem w_and1 (ha : ST ct X a ta') : SW ct X (.BoolOp .And [a] pos) ta' := ⟨fun W tk => let ⟨_, p, r⟩ := ha.run W tk; ⟨_, pw_and1 p, r⟩⟩
theorem w_or1 (ha : ST ct X a ta') : SW ct X (.BoolOp .Or [a] pos) ta' := ⟨fun W tk => let ⟨_, p, r⟩ := ha.run W tk; ⟨_, pw_or1 p, r⟩⟩
theorem w_pt (ha : SW ct X a ta') : ST ct X a ta' := ⟨fun W tk => let ⟨_, p, r⟩ := ha.run W tk; ⟨_, p.pt, r⟩⟩
theorem w_and (ha : ST ct X a ta') (hb : SW ct X (.BoolOp .And (b :: rest) pos) tb') : SW ct X (.BoolOp .And (a :: b :: rest) pos) (tand ta' tb') := by
  refine ⟨fun W tk => ?_⟩
  obtain ⟨ta, pa, ra⟩ := ha.run W tk
  obtain ⟨tb, pb, rb⟩ := hb.run W tk
  refine ⟨_, pw_and pa pb, fun S F H σ ρ Q E ok G => ra S F H σ ρ _ E ok ?_⟩
  refine good_bind G fun x o v S1 F1 H1 f _ t1 h1 E1 k1 G => ?_
  obtain ⟨rfl, rfl⟩ := h1
  cases x with
  | false =>
    rw [if_neg Bool.false_ne_true] at G ⊢
    exact G _ S1 F1 H1 [] (by rw [thn_none]; exact t1) ⟨rfl, rfl⟩ E1 k1
  | true =>
    rw [if_pos rfl] at G ⊢
    exact rb S1 F1 H1 σ _ Q E1 k1 (good_after t1 k1 G)
theorem w_or (ha : ST ct X a ta') (hb : SW ct X (.BoolOp .Or (b :: rest) pos) tb') : SW ct X (.BoolOp .Or (a :: b :: rest) pos) (tor ta' tb') := by
  refine ⟨fun W tk => ?_⟩
  obtain ⟨ta, pa, ra⟩ := ha.run W tk
  obtain ⟨tb, pb, rb⟩ := hb.run W tk
  refine ⟨_, pw_or pa pb, fun S F H σ ρ Q E ok G => ra S F H σ ρ _ E ok ?_⟩
  refine good_bind G fun x o v S1 F1 H1 f _ t1 h1 E1 k1 G => ?_
  obtain ⟨rfl, rfl⟩ := h1
  cases x with
  | true =>
    rw [if_pos rfl] at G ⊢
    exact G _ S1 F1 H1 [] (by rw [thn_none]; exact t1) ⟨rfl, rfl⟩ E1 k1
  | false =>
    rw [if_neg Bool.false_ne_true] at G ⊢
    exact rb S1 F1 H1 σ _ Q E1 k1 (good_after t1 k1 G)
theorem s_one {op} (h : SE ct X a ga) : SE ct X (.BoolOp op [a] pos) ga := ⟨fun W tk => let ⟨_, p, r⟩ := h.run W tk; ⟨_, pe_one p, r⟩⟩
theorem s_and (ha : SE ct X a ga) (hb : SE ct X (.BoolOp .And (b :: rest) pos) gb) : SE ct X (.BoolOp .And (a :: b :: rest) pos) (vand ga gb) := by
  refine ⟨fun W tk => ?_⟩
  obtain ⟨ta, pa, ra⟩ := ha.run W tk
  obtain ⟨tb, pb, rb⟩ := hb.run W tk
  refine ⟨_, pe_and pa pb, fun S F H σ ρ Q E ok G => ra S F H σ ρ _ E ok ?_⟩
  refine good_bind G fun x o v S1 F1 H1 f _ t1 h1 E1 k1 G => ?_
  obtain ⟨g, h⟩ := h1.rp
  cases q : x.d with
  | bl c =>
    rw [q] at G h
    obtain rfl := h.vbl
    refine ⟨c, rfl, ?_⟩
    cases c with
    | false =>
      rw [if_neg Bool.false_ne_true]
      exact G _ S1 F1 H1 [] (t1.thn (f := f) (g := []) (o' := none) k1 Fit.nil (fun b hb => absurd hb (by simp)) (Same.refl _)) (by rw [VOk.own]; exact .bl _ _) E1 k1.tail
    | true =>
      rw [if_pos rfl]
      exact rb S1 F1 H1 σ _ Q E1 k1.tail (good_after t1 k1 G)
  | _ => rw [q] at G; exact G.elim
theorem s_or (ha : SE ct X a ga) (hb : SE ct X (.BoolOp .Or (b :: rest) pos) gb) : SE ct X (.BoolOp .Or (a :: b :: rest) pos) (vor ga gb) := by
  refine ⟨fun W tk => ?_⟩
  obtain ⟨ta, pa, ra⟩ := ha.run W tk
  obtain ⟨tb, pb, rb⟩ := hb.run W tk
  refine ⟨_, pe_or pa pb, fun S F H σ ρ Q E ok G => ra S F H σ ρ _ E ok ?_⟩
  refine good_bind G fun x o v S1 F1 H1 f _ t1 h1 E1 k1 G => ?_
  obtain ⟨g, h⟩ := h1.rp
  cases q : x.d with
  | bl c =>
    rw [q] at G h
    obtain rfl := h.vbl
    refine ⟨c, rfl, ?_⟩
    cases c with
    | true =>
      rw [if_pos rfl]
      exact G _ S1 F1 H1 [] (t1.thn (f := f) (g := []) (o' := none) k1 Fit.nil (fun b hb => absurd hb (by simp)) (Same.refl _)) (by rw [VOk.own]; exact .bl _ _) E1 k1.tail
    | false =>
      rw [if_neg Bool.false_ne_true]
      exact rb S1 F1 H1 σ _ Q E1 k1.tail (good_after t1 k1 G)
  | _ => rw [q] at G; exact G.elim
theorem s_ift {c : Expr} (hc : ST ct X c ta') (ha : SE ct X a ga) (hb : SE ct X b gb) : SE ct X (.IfExp c a b pos) (ift ta' ga gb) := by
  refine ⟨fun W tk => ?_⟩
  obtain ⟨tc, pc, rc⟩ := hc.run W tk
  obtain ⟨ta, pa, ra⟩ := ha.run W tk
  obtain ⟨tb, pb, rb⟩ := hb.run W tk
  refine ⟨_, pe_ifExp pc pa pb, fun S F H σ ρ Q E ok G => rc S F H σ ρ _ E ok ?_⟩
  refine good_bind G fun x o v S1 F1 H1 f _ t1 h1 E1 k1 G => ?_
  obtain ⟨rfl, rfl⟩ := h1
  cases x with
  | true =>
    rw [if_pos rfl] at G ⊢
    exact ra S1 F1 H1 σ _ Q E1 k1 (good_after t1 k1 G)
  | false =>
    rw [if_neg Bool.false_ne_true] at G ⊢
    exact rb S1 F1 H1 σ _ Q E1 k1 (good_after t1 k1 G)
end
end Vs
set_option maxHeartbeats 4000000
/-! Vs: statements. -/
namespace Vs
open PySem PySem.Spec PyProof.Rows L2

/-- the parameters that are lent are never assigned -/
def Kp (lent : List Bool) (σ σ' : List (Option V)) : Prop := σ'.length = σ.length ∧ ∀ i : Nat, lent[i]? = some true → σ'[i]? = σ[i]?
theorem Kp.refl {lent : List Bool} {σ : List (Option V)} : Kp lent σ σ := ⟨rfl, fun _ _ => rfl⟩
theorem Kp.trans {lent : List Bool} {σ σ1 σ2 : List (Option V)} (a : Kp lent σ σ1) (b : Kp lent σ1 σ2) : Kp lent σ σ2 := ⟨b.1.trans a.1, fun i h => (b.2 i h).trans (a.2 i h)⟩
theorem Kp.set {lent : List Bool} {σ : List (Option V)} {i : Nat} {x : Option V} (h : lent[i]? ≠ some true) : Kp lent σ (σ.set i x) := ⟨List.length_set, fun j hj => List.getElem?_set_ne fun e => h (by rw [e]; exact hj)⟩

/-- what is wanted where a statement comes to fl -/
def GoodS (K : PySem.W.Frag) (ct : Str → Addr) (lent : List Bool) (W : WX) (D : Ends) (S : Addr → Prop) (F : List Addr) (H : Hp) (σ : L2.St) (fl : Fl) : Prop :=
  match fl with
  | .nx ρ' => ∀ σ' S' F' H', Step S F H S' F' H' → EnvRp K S' H' σ' ρ' F' → Ok S' H' F' → Kp lent σ σ' → D.nx σ' H'
  | .brk ρ' => ∀ σ' S' F' H', Step S F H S' F' H' → EnvRp K S' H' σ' ρ' F' → Ok S' H' F' → Kp lent σ σ' → D.bk σ' H'
  | .ct ρ' => ∀ σ' S' F' H', Step S F H S' F' H' → EnvRp K S' H' σ' ρ' F' → Ok S' H' F' → Kp lent σ σ' → D.ct σ' H'
  | .ret pv ρ' => ∀ v f σ' S' F' H', Step S F H S' (f ++ F') H' → Rp K S' H' pv.1 v pv.2 f → EnvRp K S' H' σ' ρ' F' → Ok S' H' (f ++ F') → Kp lent σ σ' → D.rt v H'
  | .ex e ρ' => ∀ C d σ' S' F' H', Step S F H S' F' H' → EnvRp K S' H' σ' ρ' F' → Ok S' H' F' → Kp lent σ σ' → ExOk K ct S' H' e C d → W C d σ' H'
  | .no => False
section
variable {K : PySem.W.Frag} {ct : Str → Addr} {lent : List Bool} {W : WX} {D D' : Ends} {S S1 : Addr → Prop} {F F1 : List Addr} {H H1 : Hp} {σ σ1 : L2.St} {fl : Fl}
theorem GoodS.from (st : Step S F H S1 F1 H1) (kp : Kp lent σ σ1) (g : GoodS K ct lent W D S F H σ fl) : GoodS K ct lent W D S1 F1 H1 σ1 fl := by
  cases fl with
  | nx ρ' => exact fun σ' S' F' H' t E o k => g σ' S' F' H' (st.trans t) E o (kp.trans k)
  | brk ρ' => exact fun σ' S' F' H' t E o k => g σ' S' F' H' (st.trans t) E o (kp.trans k)
  | ct ρ' => exact fun σ' S' F' H' t E o k => g σ' S' F' H' (st.trans t) E o (kp.trans k)
  | ret pv ρ' => exact fun v f σ' S' F' H' t h E o k => g v f σ' S' F' H' (st.trans t) h E o (kp.trans k)
  | ex e ρ' => exact fun C d σ' S' F' H' t E o k x => g C d σ' S' F' H' (st.trans t) E o (kp.trans k) x
  | no => exact g
theorem GoodS.narrow (s : ∀ b ∈ F1, b ∈ F) (g : GoodS K ct lent W D S F H σ fl) : GoodS K ct lent W D S F1 H σ fl := by
  have w : ∀ {S' : Addr → Prop} {F' : List Addr} {H' : Hp}, Step S F1 H S' F' H' → Step S F H S' F' H' := fun st => st.wide s fun b hb => .inl hb
  cases fl with
  | nx ρ' => exact fun σ' S' F' H' t E o k => g σ' S' F' H' (w t) E o k
  | brk ρ' => exact fun σ' S' F' H' t E o k => g σ' S' F' H' (w t) E o k
  | ct ρ' => exact fun σ' S' F' H' t E o k => g σ' S' F' H' (w t) E o k
  | ret pv ρ' => exact fun v f σ' S' F' H' t h E o k => g v f σ' S' F' H' (w t) h E o k
  | ex e ρ' => exact fun C d σ' S' F' H' t E o k x => g C d σ' S' F' H' (w t) E o k x
  | no => exact g
/-- an expression ahead of what follows -/
theorem good_go {α β : Type} {Rel : (Addr → Prop) → Hp → α → β → List Addr → Prop} {ρ : Env} {r : R α} {k : α → Env → Fl} {P : β → Hp → Prop} (G : GoodS K ct lent W D S F H σ (r.go ρ k))
    (cont : ∀ a o y S1 F1 H1 f, Step S F H S1 (f ++ F1) H1 → Rel S1 H1 a y f → EnvRp K S1 H1 σ (now o ρ) F1 → Ok S1 H1 (f ++ F1) → GoodS K ct lent W D S F H σ (k a (now o ρ)) → P y H1) : Good K ct Rel W S F H σ ρ r P := by
  cases r with
  | no => exact G
  | ex x ρ1 => exact fun C d S' F' H' st E o hx => G C d σ S' F' H' st E o Kp.refl hx
  | ok a o => exact fun y S1 F1 H1 f t h E ok => cont a o y S1 F1 H1 f t.step h E ok G
end

structure SS (ct : Str → Addr) (lent : List Bool) (X : Cx) (st : Stmt) (g : MS) : Prop where
  run : ∀ W, Takes X W → PassesOwn (model X.prog X.w) X.A X.env X.xe → ∃ t, PS X st t ∧ ∀ S F H σ ρ D, EnvRp X.K S H σ ρ F → Ok S H F → GoodS X.K ct lent W D S F H σ (g ρ) → t D σ H
structure SSs (ct : Str → Addr) (lent : List Bool) (X : Cx) (st : List Stmt) (g : MS) : Prop where
  run : ∀ W, Takes X W → PassesOwn (model X.prog X.w) X.A X.env X.xe → ∃ t, PSs X st t ∧ ∀ S F H σ ρ D, EnvRp X.K S H σ ρ F → Ok S H F → GoodS X.K ct lent W D S F H σ (g ρ) → t D σ H
/-- a target -/
structure SG (ct : Str → Addr) (lent : List Bool) (X : Cx) (tg : Expr) (g : MG) : Prop where
  run : ∀ W, Takes X W → ∃ t, PG X tg t ∧ ∀ S F H σ ρ x v f D Q, VOk X.K S H x v f → EnvRp X.K S H σ ρ F → Ok S H (f ++ F) → (∀ σ' H', D.nx σ' H' → Q σ' H') → GoodS X.K ct lent W D S (f ++ F) H σ (g x ρ) → t v σ H Q
structure SGs (ct : Str → Addr) (lent : List Bool) (X : Cx) (tg : List Expr) (gs : List MG) : Prop where
  run : ∀ W, Takes X W → ∃ t, PGs X tg t ∧ ∀ S F H σ ρ xs vs f D Q, VsOk X.K S H xs vs f → (∀ x ∈ xs, x.stable = true) → EnvRp X.K S H σ ρ F → Ok S H (f ++ F) → (∀ σ' H', D.nx σ' H' → Q σ' H') → GoodS X.K ct lent W D S (f ++ F) H σ (gall gs xs ρ) → t vs σ H Q

section
variable {ct : Str → Addr} {lent : List Bool} {X : Cx} {st : Stmt} {rest : List Stmt} {g h : MS} {e : Expr} {ge : M} {pos : Pos}
theorem ss_nil : SSs ct lent X [] skip := ⟨fun W tk po => ⟨_, pss_nil, fun S F H σ ρ D E ok G => G σ S F H Step.refl E ok Kp.refl⟩⟩
theorem ss_one (h1 : SS ct lent X st g) : SSs ct lent X [st] g := ⟨fun W tk po => let ⟨_, p, r⟩ := h1.run W tk po; ⟨_, pss_one p, r⟩⟩
theorem ss_cons (h1 : SS ct lent X st g) (h2 : SSs ct lent X rest h) : SSs ct lent X (st :: rest) (sq g h) := by
  refine ⟨fun W tk po => ?_⟩
  obtain ⟨t1, p1, r1⟩ := h1.run W tk po
  obtain ⟨t2, p2, r2⟩ := h2.run W tk po
  refine ⟨_, pss_cons p1 p2, fun S F H σ ρ D E ok G => ?_⟩
  show t1 { D with nx := t2 D } σ H
  refine r1 S F H σ ρ _ E ok ?_
  unfold sq at G
  cases q : g ρ with
  | nx ρ1 =>
    rw [q] at G
    exact fun σ1 S1 F1 H1 st1 E1 ok1 kp => r2 S1 F1 H1 σ1 ρ1 D E1 ok1 (GoodS.from st1 kp G)
  | _ => rw [q] at G; exact G
theorem ss_expr (he : SE ct X e ge) (hs : swapsWith e none pos.line X.env = pure false := by rfl) : SS ct lent X (.Expr e pos) (ex ge) := by
  refine ⟨fun W tk po => ?_⟩
  obtain ⟨ta, pa, ra⟩ := he.run W tk
  refine ⟨_, ps_expr pa hs, fun S F H σ ρ D E ok G => ra S F H σ ρ _ E ok ?_⟩
  exact good_go G fun a o y S1 F1 H1 f st h E1 ok1 G => G σ S1 F1 H1 (st.less fun b hb => List.mem_append_right _ hb) E1 ok1.tail Kp.refl
theorem kept_some {x : VV} {pv : PV} (h : x.kept = some pv) : x.stable = true ∧ pv = (x.m, x.d) := by
  unfold VV.kept at h
  split at h
  · rename_i hs
    exact ⟨hs, (Option.some.inj h).symm⟩
  · cases h
theorem ss_ret (he : SE ct X e ge) : SS ct lent X (.Return (some e) pos) (ret ge) := by
  refine ⟨fun W tk po => ?_⟩
  obtain ⟨ta, pa, ra⟩ := he.run W tk
  refine ⟨_, ps_ret pa, fun S F H σ ρ D E ok G => ra S F H σ ρ _ E ok ?_⟩
  refine good_go G fun a o y S1 F1 H1 f st h E1 ok1 G => ?_
  cases q : a.kept with
  | none => rw [q] at G; exact G.elim
  | some pv =>
    rw [q] at G
    obtain ⟨hs, rfl⟩ := kept_some q
    exact G y f σ S1 F1 H1 st (h.stab hs) E1 ok1 Kp.refl
theorem ss_retN : SS ct lent X (.Return none pos) retN := ⟨fun W tk po => ⟨_, ps_retN, fun S F H σ ρ D E ok G => G .non [] σ S F H Step.refl (.non _) E ok Kp.refl⟩⟩
theorem ss_pass : SS ct lent X (.Pass pos) skip := ⟨fun W tk po => ⟨_, ps_pass, fun S F H σ ρ D E ok G => G σ S F H Step.refl E ok Kp.refl⟩⟩
theorem ss_doc {x j pos pos'} : SS ct lent X (.Expr (.Constant (.str x) j pos) pos') skip := ⟨fun W tk po => ⟨_, ps_doc, fun S F H σ ρ D E ok G => G σ S F H Step.refl E ok Kp.refl⟩⟩
def brk : MS := fun ρ => .brk ρ
def cont : MS := fun ρ => .ct ρ
theorem ss_break : SS ct lent X (.Break pos) brk := ⟨fun W tk po => ⟨_, ps_break, fun S F H σ ρ D E ok G => G σ S F H Step.refl E ok Kp.refl⟩⟩
theorem ss_cont : SS ct lent X (.Continue pos) cont := ⟨fun W tk po => ⟨_, ps_continue, fun S F H σ ρ D E ok G => G σ S F H Step.refl E ok Kp.refl⟩⟩
theorem ss_if {c : Expr} {gc : MT} {a b : List Stmt} (hc : ST ct X c gc) (ha : SSs ct lent X a g) (hb : SSs ct lent X b h) : SS ct lent X (.If c a b pos) (ifs gc g h) := by
  refine ⟨fun W tk po => ?_⟩
  obtain ⟨tc, pc, rc⟩ := hc.run W tk
  obtain ⟨ta, pa, ra⟩ := ha.run W tk po
  obtain ⟨tb, pb, rb⟩ := hb.run W tk po
  refine ⟨_, ps_if pc pa pb, fun S F H σ ρ D E ok G => rc S F H σ ρ _ E ok ?_⟩
  refine good_go G fun a o y S1 F1 H1 f st h E1 ok1 G => ?_
  obtain ⟨rfl, rfl⟩ := h
  cases a with
  | true =>
    rw [if_pos rfl] at G ⊢
    exact ra S1 F1 H1 σ _ D E1 ok1 (GoodS.from st Kp.refl G)
  | false =>
    rw [if_neg Bool.false_ne_true] at G ⊢
    exact rb S1 F1 H1 σ _ D E1 ok1 (GoodS.from st Kp.refl G)
/-! ### targets -/
theorem put_over : ∀ (ρ : Env) (i : Nat) (x : Option PV), ρ.length ≤ i → Vs.put ρ i x = ρ
  | [], _, _, _ => rfl
  | _ :: _, 0, _, h => by simp at h
  | y :: r, i + 1, x, h => by show y :: Vs.put r i x = y :: r; rw [put_over r i x (by simpa using h)]
theorem sg_name {i : Nat} {x : Str} (hN : X.N.Nodup) (hi : X.N[i]? = some x) (hx : Loc X.env.scope x) (hl : lent[i]? ≠ some true) (hf : X.fn x = true ∨ X.env.scope.names.lookup x = some .local := by first | exact .inl rfl | exact .inr rfl | assumption) :
    SG ct lent X (.Name x pos) (gname i) := by
  refine ⟨fun W tk => ⟨_, pg_name hN hi hx hf, fun S F H σ ρ x v f D Q h E ok q G => ?_⟩⟩
  show Q (σ.set i (some v)) H
  refine q _ _ ?_
  unfold gname at G
  cases e : x.kept with
  | none => rw [e] at G; exact G.elim
  | some pv =>
    rw [e] at G
    obtain ⟨hs, rfl⟩ := kept_some e
    obtain ⟨f0, G0, p, E0⟩ := E.drop i
    have p2 : (f ++ F).Perm (f0 ++ (f ++ G0)) := by
      refine (List.Perm.append_left _ p).trans ?_
      rw [← List.append_assoc, ← List.append_assoc]
      exact List.Perm.append_right _ List.perm_append_comm
    have ok2 : Ok S H (f ++ G0) := (ok.perm p2).tail
    by_cases hl2 : i < σ.length
    · exact G _ S (f ++ G0) H (Step.refl.less fun b hb => p2.mem_iff.mpr (List.mem_append_right _ hb)) (E0.fill hl2 (h.stab hs)) ok2 (Kp.set hl)
    · have e1 : σ.set i (some v) = σ := List.set_eq_of_length_le (by omega)
      have e2 : Vs.put ρ i (some (x.m, x.d)) = ρ := put_over _ _ _ (by rw [← E.len]; omega)
      replace G : GoodS X.K ct lent W D S (f ++ F) H σ (.nx (Vs.put ρ i (some (x.m, x.d)))) := G
      rw [e2] at G
      rw [e1]
      exact G σ S F H (Step.refl.less fun b hb => List.mem_append_right _ hb) E ok.tail Kp.refl
theorem sgs_nil : SGs ct lent X [] [] := by
  refine ⟨fun W tk => ⟨_, pgs_nil, fun S F H σ ρ xs vs f D Q h hs E ok q G => ?_⟩⟩
  cases h with
  | nil => exact ⟨rfl, q _ _ (G σ S F H Step.refl E ok Kp.refl)⟩
  | cons _ _ => exact G.elim
theorem VsOk.step {K : PySem.W.Frag} {S S' : Addr → Prop} {H H' : Hp} {F F' : List Addr} (st : Step S F H S' F' H') (ok : Ok S H F) {xs : List VV} {vs : List V} {f : List Addr} (hf : ∀ b ∈ f, b ∉ F) (s : ∀ x ∈ xs, x.stable = true) (h : VsOk K S H xs vs f) : VsOk K S' H' xs vs f := by
  induction h with
  | nil => exact .nil
  | cons a b ih => exact .cons (a.step st ok (fun b hb => hf b (List.mem_append_left _ hb)) (s _ (List.mem_cons_self ..))) (ih (fun b hb => hf b (List.mem_append_right _ hb)) fun x hx => s x (List.mem_cons_of_mem _ hx))
theorem sgs_cons {t : Expr} {ts : List Expr} {g : MG} {gs : List MG} (h1 : SG ct lent X t g) (h2 : SGs ct lent X ts gs)
    (mk : ∀ {a b}, PG X t a → PGs X ts b → PGs X (t :: ts) (gCons a b)) : SGs ct lent X (t :: ts) (g :: gs) := by
  refine ⟨fun W tk => ?_⟩
  obtain ⟨t1, p1, r1⟩ := h1.run W tk
  obtain ⟨t2, p2, r2⟩ := h2.run W tk
  refine ⟨_, mk p1 p2, fun S F H σ ρ xs vs f D Q h hs E ok q G => ?_⟩
  cases h with
  | nil => exact G.elim
  | cons a b =>
    rename_i x v f xs vs g'
    refine ⟨v, vs, rfl, ?_⟩
    unfold gall at G
    have ok1 : Ok S H (g' ++ (f ++ F)) := ok.perm (by
      rw [← List.append_assoc]
      exact List.Perm.append_right _ List.perm_append_comm)
    have sb : ∀ b ∈ f ++ F, b ∈ f ++ g' ++ F := fun b hb => by
      simp only [List.mem_append] at hb ⊢
      exact hb.elim (fun z => .inl (.inl z)) .inr
    refine r1 S F H σ ρ x v f { D with nx := fun σ1 H1 => t2 vs σ1 H1 Q } _ a E ok1.tail (fun _ _ z => z) ?_
    cases q1 : g x ρ with
    | nx ρ1 =>
      rw [q1] at G
      intro σ1 S1 F1 H1 st E1 k1 kp
      have st' : Step S (f ++ g' ++ F) H S1 (g' ++ F1) H1 := st.wide sb fun b hb => by
        rcases List.mem_append.mp hb with z | z
        · exact .inr (List.mem_append_left _ (List.mem_append_right _ z))
        · exact .inl z
      exact r2 S1 F1 H1 σ1 ρ1 xs vs g' D Q (b.step st ok1.tail ok1.apart fun x hx => hs x (List.mem_cons_of_mem _ hx)) (fun x hx => hs x (List.mem_cons_of_mem _ hx)) E1 (Ok.join st ok1 k1) q (GoodS.from st' kp G)
    | ret pv ρ1 => rw [q1] at G; exact GoodS.narrow sb G
    | brk ρ1 => rw [q1] at G; exact GoodS.narrow sb G
    | ct ρ1 => rw [q1] at G; exact GoodS.narrow sb G
    | ex e ρ1 => rw [q1] at G; exact GoodS.narrow sb G
    | no => rw [q1] at G; exact G.elim
theorem VsOk.of_all {K : PySem.W.Frag} {S : Addr → Prop} {H : Hp} {m : Nat} : ∀ {vs : List V} {ds : List D} {f : List Addr}, RpAll K S H m vs ds f → VsOk K S H (ds.map fun d => ⟨false, m, d⟩) vs f
  | _, _, _, .nil _ => .nil
  | _, _, _, .cons h r => .cons (by rw [VOk.own]; exact h) (VsOk.of_all r)
theorem sg_tup {es : List Expr} {kk : Nat} {gs : List MG} {n : Nat} (h : SGs ct lent X es gs) (mk : ∀ {t}, PGs X es t → PG X (.Tuple es kk pos) (gTup X.K n t)) (hn : gs.length = n) : SG ct lent X (.Tuple es kk pos) (gtup gs) := by
  refine ⟨fun W tk => ?_⟩
  obtain ⟨t, p, r⟩ := h.run W tk
  refine ⟨_, mk p, fun S F H σ ρ x v f D Q h E ok q G => ?_⟩
  unfold gtup at G
  obtain ⟨b, m, d⟩ := x
  cases d with
  | tup ds =>
    cases b with
    | true => exact G.elim
    | false =>
      replace G : GoodS X.K ct lent W D S (f ++ F) H σ (if false = false ∧ ds.length = gs.length then gall gs (ds.map fun d => ⟨false, m - 1, d⟩) ρ else .no) := G
      by_cases hl : ds.length = gs.length
      · rw [if_pos ⟨rfl, hl⟩] at G
        rw [VOk.own] at h
        obtain ⟨a, xs, rfl, h1, h2⟩ := h.tup
        exact ⟨a, xs, rfl, h1, h2.length.trans (hl.trans hn), r S F H σ ρ _ xs f D Q (VsOk.of_all h2) (fun x hx => by obtain ⟨d, _, rfl⟩ := List.mem_map.mp hx; rfl) E ok q G⟩
      · rw [if_neg fun z => hl z.2] at G
        exact G.elim
  | _ => exact G.elim
end
end Vs
set_option maxHeartbeats 4000000
/-! Vs: loops. -/
namespace Vs
open PySem PySem.Spec PyProof.Rows L2

/-- some time later: what stays has stayed -/
structure Later (S : Addr → Prop) (H : Hp) (S' : Addr → Prop) (H' : Hp) : Prop where
  s : ∀ b, S b → S' b
  kS : ∀ b o, S b → H b = some o → H' b = some o
  kM : ∀ b o, H b = some o → ¬ Mut (some o) → H' b = some o
/-- the walked thing gives these, one after another -/
def ItOk (K : PySem.W.Frag) (S : Addr → Prop) (H : Hp) (ds : List D) (J : It) (f : List Addr) : Prop :=
  f = [] ∧ ∀ S2 H2, Later S H S2 H2 → ∀ i : Nat, (∀ d, ds[i]? = some d → J.go i H2 ∧ ∀ x H3, J.yld i H2 x H3 → Same H2 H3 ∧ Rp K S2 H3 0 x d []) ∧ (ds.length ≤ i → J.stop i H2)
structure SI (ct : Str → Addr) (X : Cx) (tg e : Expr) (g : MI) : Prop where
  run : ∀ W, Takes X W → ∃ wi, PI X tg e wi ∧ ∀ S F H σ ρ R, EnvRp X.K S H σ ρ F → Ok S H F → Good X.K ct (ItOk X.K) W S F H σ ρ (g ρ) R → wi σ H R
section
variable {S S1 : Addr → Prop} {F F1 : List Addr} {H H1 : Hp}
theorem Step.later (st : Step S F H S1 F1 H1) (ok : Ok S H F) : Later S H S1 H1 :=
  ⟨st.sub, fun b o hb e => st.keep b o e fun z => ok.ns b z hb, fun b o e nm => st.keep b o e fun z => nm (e ▸ ok.mu b z)⟩
theorem Later.refl : Later S H S H := ⟨fun _ z => z, fun _ _ _ e => e, fun _ _ e _ => e⟩
end
theorem whiles_good {K : PySem.W.Frag} {ct : Str → Addr} {lent : List Bool} {W : WX} {D : Ends} {S : Addr → Prop} {F : List Addr} {H : Hp} {σ : L2.St} {ρ : Env} {c : MT} {b : MS} (g : GoodS K ct lent W D S F H σ (whiles c b ρ)) : ∃ n, GoodS K ct lent W D S F H σ (whileN c b n ρ) := by
  unfold whiles at g
  split at g
  · rename_i h
    exact ⟨_, g⟩
  · exact g.elim
section
variable {ct : Str → Addr} {lent : List Bool} {X : Cx} {body : List Stmt} {gb : MS} {pos : Pos}
theorem ss_for {tg iter : Expr} {gi : MI} {gg : MG} (hc : X.calm = true) (hi : SI ct X tg iter gi) (hg : SG ct lent X tg gg) (hb : SSs ct lent X body gb) (hs : ∀ x, foldedSetIterable iter X.env x = pure x := by intro _; rfl) :
    SS ct lent X (.For tg iter body [] pos) (fors gi gg gb) := by
  refine ⟨fun W tk po => ?_⟩
  obtain ⟨wi, pi, ri⟩ := hi.run W tk
  obtain ⟨tg', pg, rg⟩ := hg.run W tk
  obtain ⟨tb, pb, rb⟩ := hb.run W tk po
  refine ⟨_, ps_for po hc pi pg pb hs, fun S F H σ ρ D E ok G => ri S F H σ ρ _ E ok ?_⟩
  refine good_go G fun ds o J S1 F1 H1 f st hJ E1 ok1 G => ?_
  obtain ⟨rfl, hJ⟩ := hJ
  replace ok1 : Ok S1 H1 F1 := ok1
  replace st : Step S F H S1 F1 H1 := st
  refine ⟨fun i m σ' H' => ∃ ρ' S' F', i + m = ds.length ∧ Step S1 F1 H1 S' F' H' ∧ EnvRp X.K S' H' σ' ρ' F' ∧ Ok S' H' F' ∧ Kp lent σ σ' ∧ GoodS X.K ct lent W D S' F' H' σ' (forL gg gb (ds.drop i) ρ'),
    ⟨ds.length, _, S1, F1, by omega, Step.refl, E1, ok1, Kp.refl, GoodS.from st Kp.refl G⟩, fun i m σ' H' hW => ?_⟩
  obtain ⟨ρ', S', F', em, st', E', ok', kp', G'⟩ := hW
  obtain ⟨j1, j2⟩ := hJ S' H' (st'.later ok1) i
  by_cases hi : i < ds.length
  · obtain ⟨d, hd⟩ : ∃ d, ds[i]? = some d := ⟨ds[i], List.getElem?_eq_getElem hi⟩
    obtain ⟨g1, g2⟩ := j1 d hd
    have ed : ds.drop i = d :: ds.drop (i + 1) := by
      have := List.drop_eq_getElem_cons hi
      rw [List.getElem?_eq_getElem hi] at hd
      rw [this, Option.some.inj hd]
    rw [ed] at G'
    refine .inr ⟨g1, fun σ2 H2 => ∃ ρ2 S2 F2, Step S1 F1 H1 S2 F2 H2 ∧ EnvRp X.K S2 H2 σ2 ρ2 F2 ∧ Ok S2 H2 F2 ∧ Kp lent σ σ2 ∧ GoodS X.K ct lent W D S2 F2 H2 σ2 (forL gg gb (ds.drop (i + 1)) ρ2), fun σ2 H2 hN => ?_, fun x H3 hy => ?_⟩
    · obtain ⟨ρ2, S2, F2, a1, a2, a3, a4, a5⟩ := hN
      exact ⟨m - 1, by omega, ρ2, S2, F2, by omega, a1, a2, a3, a4, a5⟩
    · obtain ⟨sm, rx⟩ := g2 x H3 hy
      have st3 : Step S' F' H' S' F' H3 := Step.of_same sm fun _ => .inl
      have G3 := GoodS.from st3 Kp.refl G'
      unfold forL at G3
      -- one turn
      let N : L2.St → Hp → Prop := fun σ2 H2 => ∃ ρ2 S2 F2, Step S1 F1 H1 S2 F2 H2 ∧ EnvRp X.K S2 H2 σ2 ρ2 F2 ∧ Ok S2 H2 F2 ∧ Kp lent σ σ2 ∧ GoodS X.K ct lent W D S2 F2 H2 σ2 (forL gg gb (ds.drop (i + 1)) ρ2)
      have turn : GoodS X.K ct lent W { D with nx := N, ct := N, bk := D.nx } S' F' H3 σ' ((gg ⟨false, 0, d⟩ ρ').seq gb) := by
        cases q : (gg ⟨false, 0, d⟩ ρ').seq gb with
        | nx ρ1 =>
          rw [q] at G3
          exact fun σ2 S2 F2 H2 t E2 o2 k2 => ⟨ρ1, S2, F2, (st'.trans st3).trans t, E2, o2, kp'.trans k2, GoodS.from t k2 G3⟩
        | ct ρ1 =>
          rw [q] at G3
          exact fun σ2 S2 F2 H2 t E2 o2 k2 => ⟨ρ1, S2, F2, (st'.trans st3).trans t, E2, o2, kp'.trans k2, GoodS.from t k2 G3⟩
        | brk ρ1 => rw [q] at G3; exact G3
        | ret pv ρ1 => rw [q] at G3; exact G3
        | ex e ρ1 => rw [q] at G3; exact G3
        | no => rw [q] at G3; exact G3
      refine rg S' F' H3 σ' ρ' ⟨false, 0, d⟩ x [] { D with nx := fun σ2 H2 => tb { D with nx := N, ct := N, bk := D.nx } σ2 H2, ct := N, bk := D.nx } _ (by rw [VOk.own]; exact rx) (E'.same sm) (ok'.same sm) (fun _ _ z => z) ?_
      cases q : gg ⟨false, 0, d⟩ ρ' with
      | nx ρ1 =>
        rw [q] at turn
        exact fun σ2 S2 F2 H2 t E2 o2 k2 => rb S2 F2 H2 σ2 ρ1 _ E2 o2 (GoodS.from t k2 turn)
      | _ => rw [q] at turn; exact turn
  · refine .inl ⟨j2 (by omega), ?_⟩
    rw [List.drop_eq_nil_of_le (by omega)] at G'
    exact G' σ' S' F' H' Step.refl E' ok' Kp.refl
theorem ss_while {c : Expr} {gc : MT} (hc : ST ct X c gc) (hb : SSs ct lent X body gb) : SS ct lent X (.While c body [] pos) (whiles gc gb) := by
  refine ⟨fun W tk po => ?_⟩
  obtain ⟨tc, pc, rc⟩ := hc.run W tk
  obtain ⟨tb, pb, rb⟩ := hb.run W tk po
  refine ⟨_, ps_while po pc pb, fun S F H σ ρ D E ok G => ?_⟩
  obtain ⟨n, G⟩ := whiles_good G
  refine ⟨fun m σ' H' => ∃ ρ' S' F', Step S F H S' F' H' ∧ EnvRp X.K S' H' σ' ρ' F' ∧ Ok S' H' F' ∧ Kp lent σ σ' ∧ GoodS X.K ct lent W D S' F' H' σ' (whileN gc gb m ρ'), ⟨n, ρ, S, F, Step.refl, E, ok, Kp.refl, G⟩, fun m σ' H' hW => ?_⟩
  obtain ⟨ρ', S', F', st', E', ok', kp', G'⟩ := hW
  cases m with
  | zero => exact G'.elim
  | succ m =>
    unfold whileN at G'
    refine rc S' F' H' σ' ρ' _ E' ok' ?_
    refine good_go G' fun b o y S1 F1 H1 f st h E1 ok1 G => ?_
    obtain ⟨rfl, rfl⟩ := h
    replace ok1 : Ok S1 H1 F1 := ok1
    replace st : Step S' F' H' S1 F1 H1 := st
    cases b with
    | false =>
      rw [if_neg Bool.false_ne_true] at G ⊢
      exact G σ' S1 F1 H1 st E1 ok1 Kp.refl
    | true =>
      rw [if_pos rfl] at G ⊢
      let N : L2.St → Hp → Prop := fun σ2 H2 => ∃ ρ2 S2 F2, Step S F H S2 F2 H2 ∧ EnvRp X.K S2 H2 σ2 ρ2 F2 ∧ Ok S2 H2 F2 ∧ Kp lent σ σ2 ∧ GoodS X.K ct lent W D S2 F2 H2 σ2 (whileN gc gb m ρ2)
      refine ⟨N, fun σ2 H2 hN => ⟨m, Nat.lt_succ_self m, hN⟩, rb S1 F1 H1 σ' _ _ E1 ok1 ?_⟩
      have G1 := GoodS.from st Kp.refl G
      cases q : gb (now o ρ') with
      | nx ρ1 =>
        rw [q] at G1
        exact fun σ2 S2 F2 H2 t E2 o2 k2 => ⟨ρ1, S2, F2, (st'.trans st).trans t, E2, o2, kp'.trans k2, GoodS.from t k2 G1⟩
      | ct ρ1 =>
        rw [q] at G1
        exact fun σ2 S2 F2 H2 t E2 o2 k2 => ⟨ρ1, S2, F2, (st'.trans st).trans t, E2, o2, kp'.trans k2, GoodS.from t k2 G1⟩
      | brk ρ1 => rw [q] at G1; exact G1
      | ret pv ρ1 => rw [q] at G1; exact G1
      | ex e ρ1 => rw [q] at G1; exact G1
      | no => rw [q] at G1; exact G1
end
end Vs
set_option maxHeartbeats 4000000
/-! Vs: what is walked. -/
namespace Vs
open PySem PySem.Spec PyProof.Rows L2
section
variable {K : PySem.W.Frag} {S S' : Addr → Prop} {H H' : Hp}
theorem RpAll.later (l : Later S H S' H') {v : List V} {d : List D} (h : RpAll K S H 0 v d []) : RpAll K S' H' 0 v d [] := h.keep l.kS l.kM l.s fun _ _ z => by cases z
theorem Rp.later (l : Later S H S' H') {v : V} {d : D} (h : Rp K S H 0 v d []) : Rp K S' H' 0 v d [] := h.keep l.kS l.kM l.s fun _ _ z => by cases z
/-- a list that stays: its place, its items -/
theorem Rp.lst0' {v : V} {ds : List D} (h : Rp K S H 0 v (.lst ds) []) : ∃ a xs, v = .ref a ∧ RpAll K S H 0 xs ds [] ∧ ∀ S2 H2, Later S H S2 H2 → SqL K H2 a xs := by
  cases h with
  | lst0 r s q =>
    refine ⟨_, _, rfl, q, fun S2 H2 l => ?_⟩
    rcases r with z | ⟨o, z⟩
    · exact .inl (.inl (l.kS _ _ s z))
    · exact .inl (.inr ⟨o, l.kS _ _ s z⟩)
  | lstK r q =>
    refine ⟨_, _, rfl, q, fun S2 H2 l => ?_⟩
    rcases r with (r | ⟨o, r⟩) | r
    · cases r
    · cases r
    · exact .inr r
theorem Rp.tup0' {v : V} {ds : List D} (h : Rp K S H 0 v (.tup ds) []) : ∃ a xs, v = .ref a ∧ RpAll K S H 0 xs ds [] ∧ ∀ S2 H2, Later S H S2 H2 → SqT K H2 a xs := by
  cases h with
  | tup0 r q => exact ⟨_, _, rfl, q, fun S2 H2 l => sqT_keep l.kM (.inl (.inl r))⟩
/-- what is kept from now on as it is -/
theorem froze {F : List Addr} {m : Nat} {d : D} {v : V} {f : List Addr} (h : Rp K S H m v d f) (ok : Ok S H (f ++ F)) : ∃ S', (∀ b, S b → S' b) ∧ (∀ b, S' b → S b ∨ b ∈ f) ∧ Rp K S' H 0 v d [] ∧ Ok S' H F := by
  obtain ⟨f0, f1, p, r⟩ := h.thin 0
  rw [Nat.min_zero] at r
  have e := r.own0
  subst e
  rw [List.nil_append] at p
  refine ⟨_, fun b => Or.inl, fun b hb => hb.imp id fun z => p.mem_iff.mpr z, r, ok.tail.nd, ok.tail.mu, fun b hb z => z.elim (ok.tail.ns b hb) fun z => ok.apart b (p.mem_iff.mpr z) hb, fun b hb => hb.elim (ok.tr b) fun z => ok.mem (List.mem_append_left _ (p.mem_iff.mpr z))⟩
theorem froze' {F : List Addr} {b : Bool} {m : Nat} {d : D} {v : V} {f : List Addr} (h : VOk K S H ⟨b, m, d⟩ v f) (ok : Ok S H (f ++ F)) (hb : b = false ∨ m = 0) :
    ∃ S', (∀ b, S b → S' b) ∧ (∀ b, S' b → S b ∨ b ∈ f) ∧ Rp K S' H 0 v d [] ∧ Ok S' H F := by
  cases b with
  | false => rw [VOk.own] at h; exact froze h ok
  | true =>
    obtain rfl : m = 0 := hb.resolve_left (by simp)
    rw [VOk.bor] at h
    obtain ⟨rfl, g, h⟩ := h
    obtain rfl := h.own0
    exact ⟨S, fun _ z => z, fun _ => Or.inl, h, ok⟩
theorem Fit.froze {o : Option Vs.Env} {S1 : Addr → Prop} {F F1 f : List Addr} {H1 : Hp} (t : Fit o S F H S1 F1 f H1) (k : Ok S1 H1 (f ++ F1)) (a : ∀ b, S1 b → S' b) (b : ∀ b, S' b → S1 b ∨ b ∈ f) : Fit o S F H S' F1 [] H1 := by
  cases o with
  | none =>
    obtain ⟨e, u1, u2, rfl, n⟩ := t
    exact ⟨e, fun x hx => a x (u1 x hx), fun x hx => (b x hx).elim (u2 x) fun z => .inr (n x z), rfl, by simp⟩
  | some _ =>
    have t : Step S F H S1 (f ++ F1) H1 := t
    exact ⟨t.keep, fun x hx => a x (t.sub x hx), fun x hx => t.newF x (List.mem_append_right _ hx), fun x hx => (b x hx).elim (t.newS x) fun z => .inr (t.newF x (List.mem_append_left _ z))⟩
theorem it_list {a : Addr} {xs : List V} {ds : List D} (h : RpAll K S H 0 xs ds []) (l : ∀ S2 H2, Later S H S2 H2 → SqL K H2 a xs) : ItOk K S H ds (Itl K a) [] := by
  refine ⟨rfl, fun S2 H2 t i => ⟨fun d hd => ?_, fun hi => ⟨xs, l _ _ t, by rw [h.length]; exact hi⟩⟩⟩
  obtain ⟨u, hu, ru⟩ := (h.later t).get0 hd
  refine ⟨⟨xs, u, l _ _ t, hu⟩, fun x H3 hy => ?_⟩
  obtain ⟨rfl, hx⟩ := hy
  have := (hx xs (l _ _ t)).symm.trans hu
  cases this
  exact ⟨Same.refl _, ru⟩
theorem it_tup {a : Addr} {xs : List V} {ds : List D} (h : RpAll K S H 0 xs ds []) (l : ∀ S2 H2, Later S H S2 H2 → SqT K H2 a xs) : ItOk K S H ds (Itt K a) [] := by
  refine ⟨rfl, fun S2 H2 t i => ⟨fun d hd => ?_, fun hi => ⟨xs, l _ _ t, by rw [h.length]; exact hi⟩⟩⟩
  obtain ⟨u, hu, ru⟩ := (h.later t).get0 hd
  refine ⟨⟨xs, u, l _ _ t, hu⟩, fun x H3 hy => ?_⟩
  obtain ⟨rfl, hx⟩ := hy
  have := (hx xs (l _ _ t)).symm.trans hu
  cases this
  exact ⟨Same.refl _, ru⟩
theorem it_rng {a b : Int} {n : Nat} (hn : n = (b - a).toNat) : ItOk K S H (rng a b) (Itr a n) [] := by
  subst hn
  refine ⟨rfl, fun S2 H2 t i => ⟨fun d hd => ?_, fun hi => ?_⟩⟩
  · unfold rng at hd
    rw [List.getElem?_map] at hd
    by_cases h : i < (b - a).toNat
    · rw [List.getElem?_range h] at hd
      obtain rfl := Option.some.inj hd
      refine ⟨h, fun x H3 hy => ?_⟩
      obtain ⟨rfl, rfl⟩ := hy
      exact ⟨Same.refl _, .int _ _⟩
    · rw [List.getElem?_eq_none (by rw [List.length_range]; omega)] at hd
      cases hd
  · unfold rng at hi
    rw [List.length_map, List.length_range] at hi
    exact hi
theorem same_upd {p : Addr} {o : HO} (h : H p = none) : Same H (upd H p o) := fun b x e => by
  rw [upd_ne (ne_of_none e h)]
  exact e
theorem enumD_get : ∀ (ds : List D) (n i : Nat), (enumD n ds)[i]? = ds[i]?.map fun d => .tup [.int ((n + i : Nat) : Int), d]
  | [], _, _ => rfl
  | d :: ds, n, 0 => rfl
  | d :: ds, n, i + 1 => by
    show (enumD (n + 1) ds)[i]? = ds[i]?.map _
    rw [enumD_get ds (n + 1) i]
    congr 1
    funext d
    congr 4
    omega
theorem enumD_len : ∀ (ds : List D) (n : Nat), (enumD n ds).length = ds.length
  | [], _ => rfl
  | d :: ds, n => congrArg (· + 1) (enumD_len ds (n + 1))
theorem it_enum {a : Addr} {xs : List V} {ds : List D} (h : RpAll K S H 0 xs ds []) (l : ∀ S2 H2, Later S H S2 H2 → SqL K H2 a xs) : ItOk K S H (enumD 0 ds) (Ite K a) [] := by
  refine ⟨rfl, fun S2 H2 t i => ⟨fun d hd => ?_, fun hi => ⟨xs, l _ _ t, by rw [h.length, ← enumD_len ds 0]; exact hi⟩⟩⟩
  rw [enumD_get] at hd
  cases q : ds[i]? with
  | none => rw [q] at hd; cases hd
  | some e =>
    rw [q] at hd
    obtain rfl := Option.some.inj hd
    obtain ⟨u, hu, ru⟩ := (h.later t).get0 q
    refine ⟨⟨xs, u, l _ _ t, hu⟩, fun x H3 hy => ?_⟩
    obtain ⟨T, y, rfl, nT, rfl, hx⟩ := hy
    have := (hx xs (l _ _ t)).symm.trans hu
    cases this
    refine ⟨same_upd nT, .tup0 upd_same ?_⟩
    rw [Nat.zero_add]
    exact .cons (f := []) (g := []) (.int _ _) (.cons (f := []) (g := []) (ru.same (same_upd nT)) (.nil _))
theorem zipD_get : ∀ (ds es : List D) (i : Nat), (zipD ds es)[i]? = ds[i]?.bind fun d => es[i]?.map fun e => .tup [d, e]
  | [], _, _ => by simp [zipD]
  | _ :: _, [], i => by cases i <;> simp [zipD]
  | d :: ds, e :: es, 0 => rfl
  | d :: ds, e :: es, i + 1 => zipD_get ds es i
theorem zipD_len : ∀ (ds es : List D), (zipD ds es).length = min ds.length es.length
  | [], es => by simp [zipD]
  | _ :: _, [] => by simp [zipD]
  | d :: ds, e :: es => by
    show (zipD ds es).length + 1 = min (ds.length + 1) (es.length + 1)
    rw [zipD_len ds es]
    omega
theorem it_zip {a b : Addr} {xs ys : List V} {ds es : List D} (h : RpAll K S H 0 xs ds []) (l : ∀ S2 H2, Later S H S2 H2 → SqL K H2 a xs) (h' : RpAll K S H 0 ys es []) (l' : ∀ S2 H2, Later S H S2 H2 → SqL K H2 b ys) :
    ItOk K S H (zipD ds es) (Itz K a b) [] := by
  refine ⟨rfl, fun S2 H2 t i => ⟨fun d hd => ?_, fun hi => ⟨xs, ys, l _ _ t, l' _ _ t, by rw [h.length, h'.length]; rw [zipD_len] at hi; omega⟩⟩⟩
  rw [zipD_get] at hd
  cases q : ds[i]? with
  | none => rw [q] at hd; cases hd
  | some e =>
    cases q' : es[i]? with
    | none => rw [q, q'] at hd; cases hd
    | some e' =>
      rw [q, q'] at hd
      obtain rfl := Option.some.inj hd
      obtain ⟨u, hu, ru⟩ := (h.later t).get0 q
      obtain ⟨u', hu', ru'⟩ := (h'.later t).get0 q'
      refine ⟨⟨xs, ys, u, u', l _ _ t, l' _ _ t, hu, hu'⟩, fun x H3 hy => ?_⟩
      obtain ⟨T, y, z, rfl, nT, rfl, hx, hx'⟩ := hy
      have e1 := (hx xs (l _ _ t)).symm.trans hu
      have e2 := (hx' ys (l' _ _ t)).symm.trans hu'
      cases e1
      cases e2
      exact ⟨same_upd nT, .tup0 upd_same (.cons (f := []) (g := []) (ru.same (same_upd nT)) (.cons (f := []) (g := []) (ru'.same (same_upd nT)) (.nil _)))⟩
end
section
variable {ct : Str → Addr} {X : Cx} {tg e : Expr} {ge : M} {ga : MA}
theorem Fit.rid {o : Option Vs.Env} {S S1 : Addr → Prop} {F F1 f : List Addr} {H H1 : Hp} (t : Fit o S F H S1 F1 f H1) (k : Ok S1 H1 (f ++ F1)) : Fit o S F H S1 F1 [] H1 := t.froze k (fun _ z => z) fun _ => Or.inl
/-- the walked thing's rule gives these -/
def It1 (K : PySem.W.Frag) (r : V → Hp → (It → Hp → Prop) → Prop) (k : VV → Option (List D)) : Prop :=
  ∀ S H F x v f ds RR, VOk K S H x v f → Ok S H (f ++ F) → k x = some ds → (∀ J S', (∀ b, S b → S' b) → (∀ b, S' b → S b ∨ b ∈ f) → Ok S' H F → ItOk K S' H ds J [] → RR J H) → r v H RR
def ItN (K : PySem.W.Frag) (r : List V → Hp → (It → Hp → Prop) → Prop) (k : List VV → Option (List D)) : Prop :=
  ∀ S H F xs vs f ds RR, VsOk K S H xs vs f → Ok S H (f ++ F) → k xs = some ds → (∀ J S', (∀ b, S b → S' b) → (∀ b, S' b → S b ∨ b ∈ f) → Ok S' H F → ItOk K S' H ds J [] → RR J H) → r vs H RR
theorem run_it1 {r : V → Hp → (It → Hp → Prop) → Prop} {k : VV → Option (List D)} {a : Expr} (ha : SE ct X a ge) (mk : ∀ {t}, PE X a t → PI X tg e (fun σ H RR => t σ H fun v H1 => r v H1 RR)) (ho : It1 X.K r k) : SI ct X tg e (it1 k ge) := by
  refine ⟨fun W tk => ?_⟩
  obtain ⟨ta, pa, ra⟩ := ha.run W tk
  refine ⟨_, mk pa, fun S F H σ ρ RR E ok G => ra S F H σ ρ _ E ok ?_⟩
  refine good_bind G fun x o v S1 F1 H1 f _ t1 h1 E1 k1 G => ?_
  cases q : k x with
  | none => rw [q] at G; exact G.elim
  | some ds =>
    rw [q] at G
    exact ho S1 H1 F1 x v f ds RR h1 k1 q fun J S' u1 u2 k2 it => G J S' F1 H1 [] (t1.froze k1 u1 u2) it (E1.more u1) k2
theorem run_itN {r : List V → Hp → (It → Hp → Prop) → Prop} {k : List VV → Option (List D)} {as : List Expr} (ha : SA ct X as ga) (mk : ∀ {t}, PA X as t → PI X tg e (fun σ H RR => t σ H fun v H1 => r v H1 RR)) (ho : ItN X.K r k) : SI ct X tg e (itN k ga) := by
  refine ⟨fun W tk => ?_⟩
  obtain ⟨ta, pa, ra⟩ := ha.run W tk
  refine ⟨_, mk pa, fun S F H σ ρ RR E ok G => ra S F H σ ρ _ E ok ?_⟩
  refine good_bind G fun x o v S1 F1 H1 f _ t1 h1 E1 k1 G => ?_
  cases q : k x with
  | none => rw [q] at G; exact G.elim
  | some ds =>
    rw [q] at G
    exact ho S1 H1 F1 x v f ds RR h1 k1 q fun J S' u1 u2 k2 it => G J S' F1 H1 [] (t1.froze k1 u1 u2) it (E1.more u1) k2
theorem kL_some {x : VV} {ds : List D} (h : kL x = some ds) : (x.b = false ∨ x.m = 0) ∧ x.d = .lst ds := by
  unfold kL at h
  split at h
  · split at h
    · rename_i q
      exact ⟨q, by rw [Option.some.inj h]⟩
    · cases h
  · cases h
theorem i_list (he : SE ct X e ge) : SI ct X tg e (it1 kL ge) := by
  refine run_it1 (r := fun x H1 RR => ∃ a, x = .ref a ∧ (∃ xs, SqL X.K H1 a xs) ∧ RR (Itl X.K a) H1) he pi_list fun S H F x v f ds RR h1 k1 q hR => ?_
  obtain ⟨b, m, d⟩ := x
  obtain ⟨hb, rfl⟩ := kL_some q
  obtain ⟨S', u1, u2, r, k2⟩ := froze' h1 k1 hb
  obtain ⟨a, xs, rfl, q1, q2⟩ := r.lst0'
  exact ⟨a, rfl, ⟨xs, q2 _ _ Later.refl⟩, hR _ S' u1 u2 k2 (it_list q1 q2)⟩
theorem kT_some {x : VV} {ds : List D} (h : kT x = some ds) : (x.b = false ∨ x.m ≤ 1) ∧ x.d = .tup ds := by
  unfold kT at h
  split at h
  · split at h
    · rename_i q
      exact ⟨q, by rw [Option.some.inj h]⟩
    · cases h
  · cases h
theorem i_tup (he : SE ct X e ge) : SI ct X tg e (it1 kT ge) := by
  refine run_it1 (r := fun x H1 RR => ∃ a, x = .ref a ∧ (∃ xs, SqT X.K H1 a xs) ∧ RR (Itt X.K a) H1) he pi_tup fun S H F x v f ds RR h1 k1 q hR => ?_
  obtain ⟨b, m, d⟩ := x
  obtain ⟨hb, rfl⟩ := kT_some q
  by_cases hb2 : b = false ∨ m = 0
  · obtain ⟨S', u1, u2, r, k2⟩ := froze' h1 k1 hb2
    obtain ⟨a, xs, rfl, q1, q2⟩ := r.tup0'
    exact ⟨a, rfl, ⟨xs, q2 _ _ Later.refl⟩, hR _ S' u1 u2 k2 (it_tup q1 q2)⟩
  · obtain ⟨rfl, rfl⟩ : b = true ∧ m = 1 := by
      cases b with
      | false => exact absurd (.inl rfl) hb2
      | true => exact ⟨rfl, by
          have hb : true = false ∨ m ≤ 1 := hb
          have : ¬ m = 0 := fun z => hb2 (.inr z)
          rcases hb with z | z
          · cases z
          · omega⟩
    rw [VOk.bor] at h1
    obtain ⟨rfl, g, h⟩ := h1
    obtain ⟨a, xs, rfl, r1, r2⟩ := h.tup
    obtain rfl := r2.own0
    exact ⟨a, rfl, ⟨xs, r1⟩, hR _ S (fun _ z => z) (fun _ => Or.inl) k1 (it_tup r2 fun S2 H2 l => sqT_keep l.kM r1)⟩
theorem VsOk.one {K : PySem.W.Frag} {S : Addr → Prop} {H : Hp} {x : VV} {vs : List V} {f : List Addr} (h : VsOk K S H [x] vs f) : ∃ v, vs = [v] ∧ VOk K S H x v f := by
  cases h with
  | cons a b =>
    cases b
    rw [List.append_nil]
    exact ⟨_, rfl, a⟩
theorem VsOk.two {K : PySem.W.Frag} {S : Addr → Prop} {H : Hp} {x y : VV} {vs : List V} {f : List Addr} (h : VsOk K S H [x, y] vs f) : ∃ v w f1 f2, vs = [v, w] ∧ f = f1 ++ f2 ∧ VOk K S H x v f1 ∧ VOk K S H y w f2 := by
  cases h with
  | cons a b =>
    obtain ⟨w, e, c⟩ := VsOk.one b
    subst e
    exact ⟨_, w, _, _, rfl, rfl, a, c⟩
theorem VOk.int' {K : PySem.W.Frag} {S : Addr → Prop} {H : Hp} {b : Bool} {m : Nat} {i : Int} {v : V} {f : List Addr} (h : VOk K S H ⟨b, m, .int i⟩ v f) : v = .int i := by
  obtain ⟨g, h⟩ := h.rp
  exact h.vint
theorem kR1_some {xs : List VV} {ds : List D} (h : kR1 xs = some ds) : ∃ b m j, xs = [⟨b, m, .int j⟩] ∧ (-(2 ^ 62) ≤ j ∧ j < 2 ^ 62) ∧ ds = rng 0 j := by
  unfold kR1 at h
  split at h
  · split at h
    · rename_i q
      exact ⟨_, _, _, rfl, q, (Option.some.inj h).symm⟩
    · cases h
  · cases h
theorem kR2_some {xs : List VV} {ds : List D} (h : kR2 xs = some ds) : ∃ b m i b' m' j, xs = [⟨b, m, .int i⟩, ⟨b', m', .int j⟩] ∧ (-(2 ^ 62) ≤ i ∧ i < 2 ^ 62 ∧ -(2 ^ 62) ≤ j ∧ j < 2 ^ 62) ∧ ds = rng i j := by
  unfold kR2 at h
  split at h
  · split at h
    · rename_i q
      exact ⟨_, _, _, _, _, _, rfl, q, (Option.some.inj h).symm⟩
    · cases h
  · cases h
theorem i_range1 {a : Expr} {p pos : Pos} (hg : Gl X "range") (hm : X.mg "range" = none) (ha : SA ct X [a] ga) (hs : starEach [a] X.env = [(false, eval a X.env)] := by rfl) : SI ct X tg (.Call (.Name "range" p) [a] [] pos) (itN kR1 ga) := by
  refine run_itN (r := fun vs H1 RR => ∃ j : Int, vs = [.int j] ∧ -(2 ^ 62) ≤ j ∧ j < 2 ^ 62 ∧ RR (Itr 0 j.toNat) H1) ha (fun pa => pi_range1 hg hm pa hs) fun S H F xs vs f ds RR h1 k1 q hR => ?_
  obtain ⟨b, m, j, rfl, hb, rfl⟩ := kR1_some q
  obtain ⟨v, rfl, h⟩ := h1.one
  obtain rfl := h.int'
  exact ⟨j, rfl, hb.1, hb.2, hR _ S (fun _ z => z) (fun _ => Or.inl) k1.tail (it_rng (by rw [Int.sub_zero]))⟩
theorem i_range2 {a a' : Expr} {p pos : Pos} (hg : Gl X "range") (hm : X.mg "range" = none) (ha : SA ct X [a, a'] ga) (hs : starEach [a, a'] X.env = [(false, eval a X.env), (false, eval a' X.env)] := by rfl) (hs2 : starEach [a'] X.env = [(false, eval a' X.env)] := by rfl) :
    SI ct X tg (.Call (.Name "range" p) [a, a'] [] pos) (itN kR2 ga) := by
  refine run_itN (r := fun vs H1 RR => ∃ i j : Int, vs = [.int i, .int j] ∧ (-(2 ^ 62) ≤ i ∧ i < 2 ^ 62 ∧ -(2 ^ 62) ≤ j ∧ j < 2 ^ 62) ∧ RR (Itr i (j - i).toNat) H1) ha (fun pa => pi_range2 hg hm pa hs hs2) fun S H F xs vs f ds RR h1 k1 q hR => ?_
  obtain ⟨b, m, i, b', m', j, rfl, hb, rfl⟩ := kR2_some q
  obtain ⟨v, w, f1, f2, rfl, rfl, h, h'⟩ := h1.two
  obtain rfl := h.int'
  obtain rfl := h'.int'
  exact ⟨i, j, rfl, hb, hR _ S (fun _ z => z) (fun _ => Or.inl) k1.tail (it_rng rfl)⟩
theorem kE_some {xs : List VV} {ds : List D} (h : kE xs = some ds) : ∃ b m es, xs = [⟨b, m, .lst es⟩] ∧ (b = false ∨ m = 0) ∧ ds = enumD 0 es := by
  unfold kE at h
  split at h
  · split at h
    · rename_i q
      exact ⟨_, _, _, rfl, q, (Option.some.inj h).symm⟩
    · cases h
  · cases h
theorem i_enum {a : Expr} {p pos tpos : Pos} {elts : List Expr} {kk : Nat} (hg : Gl X "enumerate") (hm : X.mg "enumerate" = none) (ha : SA ct X [a] ga) (hs : starEach [a] X.env = [(false, eval a X.env)] := by rfl) :
    SI ct X (.Tuple elts kk tpos) (.Call (.Name "enumerate" p) [a] [] pos) (itN kE ga) := by
  refine run_itN (r := fun vs H1 RR => ∃ a xs, vs = [.ref a] ∧ SqL X.K H1 a xs ∧ RR (Ite X.K a) H1) ha (fun pa => pi_enum hg hm pa hs) fun S H F xs vs f ds RR h1 k1 q hR => ?_
  obtain ⟨b, m, es, rfl, hb, rfl⟩ := kE_some q
  obtain ⟨v, rfl, h⟩ := h1.one
  obtain ⟨S', u1, u2, r, k2⟩ := froze' h k1 hb
  obtain ⟨a, xs, rfl, q1, q2⟩ := r.lst0'
  exact ⟨a, xs, rfl, q2 _ _ Later.refl, hR _ S' u1 u2 k2 (it_enum q1 q2)⟩
theorem kZ_some {xs : List VV} {ds : List D} (h : kZ xs = some ds) : ∃ b m es b' m' es', xs = [⟨b, m, .lst es⟩, ⟨b', m', .lst es'⟩] ∧ ((b = false ∨ m = 0) ∧ (b' = false ∨ m' = 0)) ∧ ds = zipD es es' := by
  unfold kZ at h
  split at h
  · split at h
    · rename_i q
      exact ⟨_, _, _, _, _, _, rfl, q, (Option.some.inj h).symm⟩
    · cases h
  · cases h
theorem i_zip {a e2 : Expr} {p pos tpos : Pos} {elts : List Expr} {kk : Nat} (hg : Gl X "zip") (hm : X.mg "zip" = none) (ha : SA ct X [a, e2] ga)
    (hs : starEach [a, e2] X.env = (false, eval a X.env) :: starEach [e2] X.env := by rfl) (hpl : (backTo pos (starEach [e2] X.env)).any (·.1) = false := by rfl) :
    SI ct X (.Tuple elts kk tpos) (.Call (.Name "zip" p) [a, e2] [] pos) (itN kZ ga) := by
  refine run_itN (r := fun vs H1 RR => ∃ a b xs ys, vs = [.ref a, .ref b] ∧ SqL X.K H1 a xs ∧ SqL X.K H1 b ys ∧ RR (Itz X.K a b) H1) ha (fun pa => pi_zip hg hm pa hs hpl) fun S H F xs vs f ds RR h1 k1 q hR => ?_
  obtain ⟨b, m, es, b', m', es', rfl, hb, rfl⟩ := kZ_some q
  obtain ⟨v, w, f1, f2, rfl, rfl, h, h'⟩ := h1.two
  rw [List.append_assoc] at k1
  obtain ⟨S', u1, u2, r, k2⟩ := froze' h k1 hb.1
  obtain ⟨S'', w1, w2, r', k3⟩ := froze' (h'.more u1) k2 hb.2
  obtain ⟨a, xs, rfl, q1, q2⟩ := (r.more w1).lst0'
  obtain ⟨a', xs', rfl, q1', q2'⟩ := r'.lst0'
  refine ⟨a, a', xs, xs', rfl, q2 _ _ Later.refl, q2' _ _ Later.refl, hR _ S'' (fun b hb => w1 b (u1 b hb)) (fun b hb => ?_) k3 (it_zip q1 q2 q1' q2')⟩
  rcases w2 b hb with z | z
  · exact (u2 b z).imp id (List.mem_append_left _)
  · exact .inr (List.mem_append_right _ z)
end
end Vs
set_option maxHeartbeats 4000000
/-! Vs: defs and their calls. -/
namespace Vs
open PySem PySem.Spec PyProof.Rows L2

/-- what a def promises: it does what m says -/
def SpF (K : PySem.W.Frag) (ct : Str → Addr) (n : Nat) (m : List PV → RF) : Sp := fun vs H Q E =>
  ∃ S F pvs, EnvRp K S H (vs.map some) (pvs.map some) F ∧ Ok S H F ∧ vs.length = n ∧ match m pvs with
    | .ok r out => ∀ v S' H' F' f, Step S F H S' (f ++ F') H' → Rp K S' H' r.1 v r.2 f → EnvRp K S' H' (vs.map some) out F' → Ok S' H' (f ++ F') → Q v H'
    | .ex e out => ∀ C d S' H' F', Step S F H S' F' H' → EnvRp K S' H' (vs.map some) out F' → Ok S' H' F' → ExOk K ct S' H' e C d → E C d H'
    | .no => False
/-- a def of the text that does what m says; no text of a value is being written ahead of it -/
structure Fn (P : Program) (w : World) (K : PySem.W.Frag) (mg : Str → Option Value) (base : Heap) (ct : Str → Addr) (k : Nat) (f : Addr) (fd : FuncData) (ps : List Str) (m : List PV → RF) : Prop where
  run : ∀ (A : Around) (outer : List PySem.Env) (s : Shared) (H : Hp) (args : Args) (us : List Value) (vs : List V) (Q : VK) (E : XK), A.guards = some [] → Room k A → Env0 P w K mg base A outer s H →
    BindsTo s fd args (ps.zip us) → Vals vs us → SpF K ct ps.length m vs H Q E → codeAny (model P w) A (.call (.ref f) args) (CR (L2N.CX P w) outer P w H s Q E) s

section
variable {K : PySem.W.Frag} {S : Addr → Prop} {H : Hp}
theorem EnvRp.deads {σ : List (Option V)} {ρ : Env} {F : List Addr} (h : EnvRp K S H σ ρ F) (n : Nat) : EnvRp K S H (σ ++ List.replicate n none) (ρ ++ List.replicate n none) F := by
  induction h with
  | nil =>
    simp only [List.nil_append]
    induction n with
    | zero => exact .nil
    | succ n ih => exact .dead ih
  | dead _ ih => exact .dead ih
  | live r _ p ih => exact .live r ih p
/-- the lent parameters behind a body -/
theorem EnvRp.outs : ∀ {lent : List Bool} {σ : List (Option V)} {ρ : Env} {F : List Addr} {vs : List V}, EnvRp K S H σ ρ F → vs.length = lent.length →
    (∀ i : Nat, lent[i]? = some true → σ[i]? = (vs.map some)[i]?) → ∃ F1 G, F.Perm (G ++ F1) ∧ EnvRp K S H (vs.map some) (Vs.outs lent ρ) F1
  | [], _, _, F, vs, _, hl, _ => by
    obtain rfl : vs = [] := List.length_eq_zero_iff.mp hl
    exact ⟨[], F, by simp, .nil⟩
  | b :: bs, _, _, F, [], _, hl, _ => by cases hl
  | b :: bs, _, _, F, v :: vs, h, hl, hk => by
    cases h with
    | nil =>
      obtain ⟨F1, G, p, q⟩ := EnvRp.outs (lent := bs) (vs := vs) (EnvRp.nil (K := K) (S := S) (H := H)) (by simpa using hl) fun i hi => by simpa using hk (i + 1) (by simpa using hi)
      exact ⟨F1, G, p, .dead q⟩
    | dead h =>
      obtain ⟨F1, G, p, q⟩ := EnvRp.outs (lent := bs) (vs := vs) h (by simpa using hl) fun i hi => by simpa using hk (i + 1) (by simpa using hi)
      refine ⟨F1, G, p, ?_⟩
      show EnvRp K S H (some v :: vs.map some) ((if b = true then none else none) :: _) F1
      rw [ite_self]
      exact .dead q
    | live r h p0 =>
      rename_i x m d f σ ρ F0
      obtain ⟨F1, G, p, q⟩ := EnvRp.outs (lent := bs) (vs := vs) h (by simpa using hl) fun i hi => by simpa using hk (i + 1) (by simpa using hi)
      show ∃ F1 G, F.Perm (G ++ F1) ∧ EnvRp K S H (some v :: vs.map some) ((if b = true then some (m, d) else none) :: _) F1
      cases b with
      | true =>
        have e : some (some x) = some (some v) := by simpa using hk 0 rfl
        cases e
        rw [if_pos rfl]
        refine ⟨f ++ F1, G, (p0.trans (List.Perm.append_left _ p)).trans ?_, .live r q (.refl _)⟩
        rw [← List.append_assoc, ← List.append_assoc]
        exact List.Perm.append_right _ List.perm_append_comm
      | false =>
        rw [if_neg Bool.false_ne_true]
        refine ⟨F1, f ++ G, (p0.trans (List.Perm.append_left _ p)).trans ?_, .dead q⟩
        rw [List.append_assoc]
end

/-- a body's end, for its caller -/
theorem body_ends {K : PySem.W.Frag} {ct : Str → Addr} {lent : List Bool} {N ps : List Str} {g : MS} {vs : List V} {H : Hp} {Q : VK} {E : XK} {t : TS} (hn : ps.length ≤ N.length) (hl : lent.length = ps.length)
    (ht : ∀ S F H σ ρ D, EnvRp K S H σ ρ F → Ok S H F → GoodS K ct lent (fun cls d _ H => E cls d H) D S F H σ (g ρ) → t D σ H) (h : SpF K ct ps.length (fnM N.length lent g) vs H Q E) :
    t { nx := fun _ H' => Q .non H', rt := Q } (L2.start N vs) H := by
  obtain ⟨S, F, pvs, EV, ok, hv, q⟩ := h
  have hp : pvs.length = vs.length := by simpa using EV.len.symm
  have e1 : EnvRp K S H (L2.start N vs) (pvs.map some ++ List.replicate (N.length - pvs.length) none) F := by
    unfold L2.start
    rw [hp]
    exact EV.deads _
  have at0 : ∀ i : Nat, lent[i]? = some true → (L2.start N vs)[i]? = (vs.map some)[i]? := fun i hi => by
    have : i < lent.length := (List.getElem?_eq_some_iff.mp hi).1
    unfold L2.start
    exact List.getElem?_append_left (by rw [List.length_map]; omega)
  -- the parameters
  have out : ∀ {S' : Addr → Prop} {H' : Hp} {σ' : List (Option V)} {ρ' : Env} {f F' : List Addr}, EnvRp K S' H' σ' ρ' F' → Kp lent (L2.start N vs) σ' → Ok S' H' (f ++ F') → ∃ F1, EnvRp K S' H' (vs.map some) (outs lent ρ') F1 ∧ Ok S' H' (f ++ F1) ∧ ∀ b ∈ f ++ F1, b ∈ f ++ F' :=
    fun {S' H' σ' ρ' f F'} e kp o => by
      obtain ⟨F1, G, p, r⟩ := e.outs (lent := lent) (vs := vs) (by omega) fun i hi => (kp.2 i hi).trans (at0 i hi)
      have p2 : (f ++ F').Perm (G ++ (f ++ F1)) := by
        refine (List.Perm.append_left _ p).trans ?_
        rw [← List.append_assoc, ← List.append_assoc]
        exact List.Perm.append_right _ List.perm_append_comm
      exact ⟨F1, r, (o.perm p2).tail, fun b hb => p2.mem_iff.mpr (List.mem_append_right _ hb)⟩
  refine ht S F H _ _ _ e1 ok ?_
  unfold fnM at q
  cases r : g (pvs.map some ++ List.replicate (N.length - pvs.length) none) with
  | no => rw [r] at q; exact q
  | brk ρ' => rw [r] at q; exact False.elim q
  | ct ρ' => rw [r] at q; exact False.elim q
  | nx ρ' =>
    rw [r] at q
    intro σ' S' F' H' st E' ok' kp
    obtain ⟨F1, a, b, c⟩ := out (f := []) E' kp ok'
    exact q .non S' H' F1 [] (st.less c) (.non _) a b
  | ret pv ρ' =>
    rw [r] at q
    intro v f σ' S' F' H' st hr E' ok' kp
    obtain ⟨F1, a, b, c⟩ := out E' kp ok'
    exact q v S' H' F1 f (st.less c) hr a b
  | ex e ρ' =>
    rw [r] at q
    intro C d σ' S' F' H' st E' ok' kp hx
    obtain ⟨F1, a, b, c⟩ := out (f := []) E' kp ok'
    exact q C d S' H' F1 (st.less c) a b hx

section
variable {P : Program} {w : World} {K : PySem.W.Frag} {mg : Str → Option Value} {base : Heap} {ct : Str → Addr}
/-- a def's body's context -/
abbrev bodyX (P : Program) (w : World) (K : PySem.W.Frag) (mg : Str → Option Value) (base : Heap) (N : List Str) (qual : Str) (st : Stmt) (f : Addr) (cdv : Value) (A : Around) (outer : List PySem.Env) (s : Shared) (H : Hp) (E : XK) : Cx :=
  cxOf (L2N.CX P w) P w K mg base N qual (defScope st) f cdv A outer s H E
/-- the rule for a def -/
theorem fn_of {x qual : Str} {st : Stmt} {f : Addr} {fd : FuncData} {N ps : List Str} {k : Nat} {lent : List Bool} {g : MS} (F : Fun K x qual st f fd) (Sc : FnScope N ps (defScope st)) (hn : ps.length ≤ N.length) (hl : lent.length = ps.length)
    (hbody : ∀ (cdv : Value) (A : Around) (outer : List PySem.Env) (s : Shared) (H : Hp) (E : XK), Room k (bodyX P w K mg base N qual st f cdv A outer s H E).A → (bodyX P w K mg base N qual st f cdv A outer s H E).A.guards = some [] →
      SSs ct lent (bodyX P w K mg base N qual st f cdv A outer s H E) (defBody st) g) : Fn P w K mg base ct (k + 1) f fd ps (fnM N.length lent g) := by
  obtain ⟨oc, od, kV, doc, pm, an, cdv, cv, osl, rfl, lk, hcd⟩ := F.ex
  refine ⟨fun A outer s H args us vs Q E hgd hr e0 hb r hsp => ?_⟩
  have hlen : vs.length = ps.length := by
    obtain ⟨_, _, _, _, _, z, _⟩ := hsp
    exact z
  have inn : K.In s.heap := e0.mod.kin.keeps fun b o e => (e0.bs b o e).1
  have lim : s.heap.NoLimit := e0.mod.nolimit.keeps fun b o e => (e0.bs b o e).1
  refine codeAny_call_function hr.depth (inn _ _ lk) rfl Sc.co Sc.gen rfl (PySem.W.codeRec_of inn hcd) (hb _ _ _ _ ?_)
  refine wpAny_newFunctionEnv_cells Sc.kind (fun ⟨n, u⟩ hm => ?_) fun env henv s1 made => ?_
  · rcases Sc.par n (List.of_mem_zip hm).1 with z | z
    · exact .inl z
    · exact .inr ⟨z, PySem.W.cellsFrom_some _ _ _ (.inl z)⟩
  · subst henv
    refine ⟨lim.keeps made.toInCall.keep, codeAny_func ?_⟩
    have I : Inv (bodyX P w K mg base N qual st f cdv A outer s H E) [] (L2.start N vs) H s1 := inv_start Sc hr.hd e0 hlen r made
    obtain ⟨t, ht, run⟩ := (hbody cdv A outer s H E (hr.deeper _) hgd).run (fun cls d _ H => E cls d H) (L2N.takes_of rfl rfl rfl rfl) (passes_of rfl)
    refine wpAny_mono (ht.run [] s1 (L2.start N vs) H _ I (body_ends hn hl run hsp)) (fun fl s2 hs => ?_) fun _ _ z => z
    have ends : ∀ {σ' : L2.St} {H' : Hp} {v : V} {u : Value}, Inv (bodyX P w K mg base N qual st f cdv A outer s H E) [] σ' H' s2 → RelV v u → Q v H' → CE outer P w H s Q u s2 :=
      fun {σ' H' v u} J rv q => ⟨v, H', J.os, J.bare, J.base, J.hok, rv, q⟩
    cases fl with
    | ret u =>
      obtain ⟨v, σ', H', J, rv, q⟩ := hs
      exact ends J rv q
    | next =>
      obtain ⟨σ', H', J, q⟩ := hs
      exact ends (v := .non) (u := .none) J rfl q
    | brk =>
      obtain ⟨_, _, _, q⟩ := hs
      exact q.elim
    | cont =>
      obtain ⟨_, _, _, q⟩ := hs
      exact q.elim
end

/-! ### calls -/
/-- arguments: slots that are lent; values -/
inductive AvOk (K : PySem.W.Frag) (σ : List (Option V)) (S : Addr → Prop) (H : Hp) : List AV → List V → List Addr → Prop
  | nil : AvOk K σ S H [] [] []
  | l {i : Nat} {v : V} {as : List AV} {vs : List V} {f : List Addr} : σ[i]? = some (some v) → AvOk K σ S H as vs f → AvOk K σ S H (.l i :: as) (v :: vs) f
  | o {m : Nat} {d : D} {v : V} {f : List Addr} {as : List AV} {vs : List V} {g : List Addr} : Rp K S H m v d f → AvOk K σ S H as vs g → AvOk K σ S H (.o (m, d) :: as) (v :: vs) (f ++ g)
structure SC (ct : Str → Addr) (X : Cx) (es : List Expr) (g : Vs.Env → R (List AV)) : Prop where
  run : ∀ W, Takes X W → ∃ t, PA X es t ∧ ∀ S F H σ ρ Q, EnvRp X.K S H σ ρ F → Ok S H F → Good X.K ct (AvOk X.K σ) W S F H σ ρ (g ρ) Q → t σ H Q
section
variable {K : PySem.W.Frag} {S S' : Addr → Prop} {H H' : Hp} {σ : List (Option V)}
theorem AvOk.len {as : List AV} {vs : List V} {f : List Addr} (h : AvOk K σ S H as vs f) : as.length = vs.length := by
  induction h with
  | nil => rfl
  | l _ _ ih => exact congrArg (· + 1) ih
  | o _ _ ih => exact congrArg (· + 1) ih
theorem perm_mid {a b c : List Addr} : (a ++ (b ++ c)).Perm (b ++ (a ++ c)) := by
  rw [← List.append_assoc, ← List.append_assoc]
  exact List.Perm.append_right _ List.perm_append_comm
theorem grab_ok : ∀ {as : List AV} {vs : List V} {f F : List Addr} {ρ ρ' : Vs.Env} {pvs : List PV}, AvOk K σ S H as vs f → EnvRp K S H σ ρ F → grab as ρ = some (pvs, ρ') →
    ∃ Fa F', EnvRp K S H (vs.map some) (pvs.map some) Fa ∧ EnvRp K S H σ ρ' F' ∧ (f ++ F).Perm (Fa ++ F')
  | _, _, _, F, ρ, ρ', pvs, .nil, E, h => by
    obtain ⟨rfl, rfl⟩ := Prod.mk.inj (Option.some.inj h)
    exact ⟨[], F, .nil, E, .refl _⟩
  | _, _, _, F, ρ, ρ', pvs, .l (i := i) (as := as) (f := f) hv a, E, h => by
    unfold grab at h
    cases q : look ρ i with
    | none => rw [q] at h; cases h
    | some pv =>
      obtain ⟨m, d⟩ := pv
      rw [q] at h
      obtain ⟨v', f', G, h1, h2, p, E'⟩ := E.take q
      rw [hv] at h1
      cases h1
      cases q2 : grab as (Vs.put ρ i none) with
      | none => rw [q2] at h; cases h
      | some z =>
        obtain ⟨pvs', ρ2⟩ := z
        rw [q2] at h
        obtain ⟨rfl, rfl⟩ := Prod.mk.inj (Option.some.inj h)
        obtain ⟨Fa, F', b1, b2, b3⟩ := grab_ok a E' q2
        refine ⟨f' ++ Fa, F', .live h2 b1 (.refl _), b2, ?_⟩
        refine (List.Perm.append_left _ p).trans (perm_mid.trans ?_)
        rw [List.append_assoc]
        exact List.Perm.append_left _ b3
  | _, _, _, F, ρ, ρ', pvs, .o (f := f) (as := as) (g := g) r a, E, h => by
    unfold grab at h
    cases q2 : grab as ρ with
    | none => rw [q2] at h; cases h
    | some z =>
      obtain ⟨pvs', ρ2⟩ := z
      rw [q2] at h
      obtain ⟨rfl, rfl⟩ := Prod.mk.inj (Option.some.inj h)
      obtain ⟨Fa, F', b1, b2, b3⟩ := grab_ok a E q2
      refine ⟨f ++ Fa, F', .live r b1 (.refl _), b2, ?_⟩
      rw [List.append_assoc, List.append_assoc]
      exact List.Perm.append_left _ b3
theorem back_ok : ∀ {as : List AV} {vs : List V} {f Fo F : List Addr} {ρ out : Vs.Env} {S0 : Addr → Prop} {H0 : Hp}, AvOk K σ S0 H0 as vs f → EnvRp K S H (vs.map some) out Fo → EnvRp K S H σ ρ F →
    ∃ G F', (Fo ++ F).Perm (G ++ F') ∧ EnvRp K S H σ (back as out ρ) F'
  | _, _, _, _, F, ρ, out, _, _, .nil, EO, E => by
    cases EO
    exact ⟨[], F, .refl _, E⟩
  | _, _, _, _, F, ρ, out, _, _, .l (i := i) (as := as) hv a, EO, E => by
    cases EO with
    | dead EO =>
      obtain ⟨f0, G0, p0, E0⟩ := E.drop i
      obtain ⟨G, F', p, E'⟩ := back_ok a EO E0
      refine ⟨f0 ++ G, F', (List.Perm.append_left _ p0).trans (perm_mid.trans ?_), E'⟩
      rw [List.append_assoc]
      exact List.Perm.append_left _ p
    | live r EO q =>
      rename_i m d f1 ρ1 F1
      obtain ⟨f0, G0, p0, E0⟩ := E.drop i
      obtain ⟨G, F', p, E'⟩ := back_ok a EO (E0.back hv r)
      refine ⟨f0 ++ G, F', ((q.append p0).trans ?_), E'⟩
      rw [List.append_assoc f0, List.append_assoc]
      exact (((List.Perm.append_left _ perm_mid).trans perm_mid).trans (List.Perm.append_left _ perm_mid)).trans (List.Perm.append_left _ p)
  | _, _, _, _, F, ρ, out, _, _, .o a0 a, EO, E => by
    cases EO with
    | dead EO =>
      obtain ⟨G, F', p, E'⟩ := back_ok a EO E
      exact ⟨G, F', p, E'⟩
    | live r EO q =>
      rename_i m d f1 ρ1 F1
      obtain ⟨G, F', p, E'⟩ := back_ok a EO E
      refine ⟨f1 ++ G, F', (List.Perm.append_right _ q).trans ?_, E'⟩
      rw [List.append_assoc, List.append_assoc]
      exact List.Perm.append_left _ p
end
section
variable {ct : Str → Addr} {X : Cx} {e : Expr} {es : List Expr} {ge : M} {as : List AK}
theorem sc_nil : SC ct X [] (cargs []) := ⟨fun W tk => ⟨_, pa_nil, fun S F H σ ρ Q E ok G => G [] S F H [] Fit.nil .nil E ok⟩⟩
theorem sc_lend (i : Nat) {x : Str} {pos : Pos} (h : SC ct X es (cargs as)) (hN : X.N[i]? = some x := by rfl) (hv : Vis X.env.scope x := by first | exact Or.inl rfl | exact Or.inr (Or.inl rfl) | exact Or.inr (Or.inr rfl)) (hd : (x == ("__debug__" : Str)) = false := by decide)
    (hcd : (x == ("__classdict__" : Str)) = false := by decide) : SC ct X (.Name x pos :: es) (cargs (.lend i :: as)) := by
  refine ⟨fun W tk => ?_⟩
  obtain ⟨t, p, r⟩ := h.run W tk
  refine ⟨_, pa_cons (pv i hN hv hd hcd) p, fun S F H σ ρ Q E ok G => ?_⟩
  unfold cargs at G
  cases q : look ρ i with
  | none => rw [q] at G; exact G.elim
  | some pv =>
    obtain ⟨m, d⟩ := pv
    rw [q] at G
    obtain ⟨v, f, G', h1, _⟩ := E.take q
    refine ⟨v, h1, r S F H σ ρ _ E ok ?_⟩
    refine good_bind G fun a o y S1 F1 H1 f _ t1 hr E1 k1 G => ?_
    exact G (v :: y) S1 F1 H1 f (by rw [thn_none]; exact t1) (.l h1 hr) E1 k1
theorem AvOk.step {K : PySem.W.Frag} {S S' : Addr → Prop} {H H' : Hp} {σ : List (Option V)} {F F' : List Addr} (st : Step S F H S' F' H') (ok : Ok S H F) {xs : List AV} {vs : List V} {f : List Addr} (hf : ∀ b ∈ f, b ∉ F) (h : AvOk K σ S H xs vs f) : AvOk K σ S' H' xs vs f := by
  induction h with
  | nil => exact .nil
  | l a _ ih => exact .l a (ih hf)
  | o a b ih => exact .o (a.step st ok fun b hb => hf b (List.mem_append_left _ hb)) (ih fun b hb => hf b (List.mem_append_right _ hb))
theorem sc_val (ha : SE ct X e ge) (h : SC ct X es (cargs as)) (hs : starEach (e :: es) X.env = (false, eval e X.env) :: starEach es X.env := by rfl) : SC ct X (e :: es) (cargs (.val ge :: as)) := by
  refine ⟨fun W tk => ?_⟩
  obtain ⟨ta, pa, ra⟩ := ha.run W tk
  obtain ⟨t, p, r⟩ := h.run W tk
  refine ⟨_, pa_cons pa p hs, fun S F H σ ρ Q E ok G => ra S F H σ ρ _ E ok ?_⟩
  unfold cargs at G
  refine good_bind G fun x o v S1 F1 H1 f _ t1 h1 E1 k1 G => ?_
  cases q : x.kept with
  | none => rw [q] at G; exact G.elim
  | some pv =>
    rw [q] at G
    obtain ⟨hs, rfl⟩ := kept_some q
    refine r S1 F1 H1 σ _ _ E1 k1.tail ?_
    cases qb : cargs as (now o ρ) with
    | no => rw [qb] at G; exact G
    | ex x ρ1 =>
      rw [qb] at G
      intro C d S2 F2 H2 st E2 k2 hx
      exact G C d S2 F2 H2 ((t1.step.less fun b hb => List.mem_append_right _ hb).trans st) E2 k2 hx
    | ok y o2 =>
      rw [qb] at G
      intro u S2 F2 H2 g t2 h2 E2 k2
      have k3 : Ok S2 H2 ((f ++ g) ++ F2) := Fit.both k1 t2 k2
      refine G (v :: u) S2 F2 H2 (f ++ g) ?_ (.o ((h1.stab hs).step t2.step k1.tail k1.apart) h2) ?_ k3
      · exact t1.thn k1 t2 (fun b hb => by rw [List.mem_append] at hb; exact hb.imp id .inl) (Same.refl _)
      · rw [thn_none, now_thn]
        exact E2
theorem cargs_len {as : List AK} {ρ : Vs.Env} {avs : List AV} {o : Option Vs.Env} (hr : cargs as ρ = .ok avs o) : avs.length = as.length := by
  induction as generalizing ρ avs o with
  | nil =>
    unfold cargs at hr
    cases hr
    rfl
  | cons a as ih =>
    cases a with
    | lend i =>
      unfold cargs at hr
      cases q : look ρ i with
      | none => rw [q] at hr; cases hr
      | some pv =>
        rw [q] at hr
        cases q2 : cargs as ρ with
        | no => rw [q2] at hr; cases hr
        | ex _ _ => rw [q2] at hr; cases hr
        | ok y o2 =>
          rw [q2] at hr
          cases hr
          exact congrArg (· + 1) (ih q2)
    | val e =>
      unfold cargs at hr
      cases q : e ρ with
      | no => rw [q] at hr; cases hr
      | ex _ _ => rw [q] at hr; cases hr
      | ok x o1 =>
        rw [q, R.bind_ok] at hr
        cases q3 : x.kept with
        | none => rw [q3] at hr; cases hr
        | some pv =>
          rw [q3] at hr
          cases q2 : cargs as (now o1 ρ) with
          | no => rw [q2] at hr; cases hr
          | ex _ _ => rw [q2] at hr; cases hr
          | ok y o2 =>
            rw [q2] at hr
            cases hr
            exact congrArg (· + 1) (ih q2)
/-- the parameters' own values -/
def DfOk (K : PySem.W.Frag) : List PV → List V → Prop := Paired fun (pv : PV) (v : V) => pv.2.imm = true ∧ ∀ S H, Rp K S H pv.1 v pv.2 []
theorem AvOk.nils {K : PySem.W.Frag} {S : Addr → Prop} {H : Hp} {σ : List (Option V)} : ∀ {df : List PV} {dvs : List V}, DfOk K df dvs → AvOk K σ S H (df.map .o) dvs []
  | _, _, .nil => .nil
  | _, _, .cons a b => .o (f := []) (g := []) (a.2 _ _) (AvOk.nils b)
theorem AvOk.append {K : PySem.W.Frag} {S : Addr → Prop} {H : Hp} {σ : List (Option V)} {as bs : List AV} {vs ws : List V} {f : List Addr} (h : AvOk K σ S H as vs f) (g : AvOk K σ S H bs ws []) : AvOk K σ S H (as ++ bs) (vs ++ ws) f := by
  induction h with
  | nil => exact g
  | l a _ ih => exact .l a ih
  | o a _ ih => exact .o a ih
theorem EnvRp.cold {K : PySem.W.Frag} {S : Addr → Prop} {H : Hp} : ∀ {vs : List V} {pvs : List PV} {F : List Addr}, EnvRp K S H (vs.map some) (pvs.map some) F → pvs.all PV.cold = true → F = []
  | [], [], _, .nil, _ => rfl
  | v :: vs, (m, d) :: pvs, F, .live r h p, hc => by
    rw [List.all_cons, Bool.and_eq_true] at hc
    obtain rfl := EnvRp.cold h hc.2
    rename_i f
    have : f = [] := by
      have c := hc.1
      unfold PV.cold at c
      rw [Bool.or_eq_true] at c
      rcases c with c | c
      · have : m = 0 := by simpa using c
        subst this
        exact r.own0
      · exact (r.imm c).1
    subst this
    exact List.Perm.eq_nil p
theorem look_putF : ∀ {ρ : Vs.Env} {i j : Nat} {pv : PV}, look (Vs.put ρ i none) j = some pv → look ρ j = some pv
  | [], _, _, _, h => h
  | x :: r, 0, 0, _, h => by cases h
  | x :: r, 0, j + 1, _, h => h
  | x :: r, i + 1, 0, _, h => h
  | x :: r, i + 1, j + 1, _, h => look_putF (ρ := r) h
theorem grab_quiet {K : PySem.W.Frag} {σ : L2.St} {S : Addr → Prop} {H : Hp} {ρ0 : Vs.Env} : ∀ {as : List AV} {vs : List V} {f F : List Addr} {ρ ρ' : Vs.Env} {pvs : List PV}, AvOk K σ S H as vs f → EnvRp K S H σ ρ F → grab as ρ = some (pvs, ρ') → as.all (AV.quiet ρ0) = true → (∀ j pv, look ρ j = some pv → look ρ0 j = some pv) →
    ∃ Fa, EnvRp K S H (vs.map some) (pvs.map some) Fa ∧ Fa.Perm f
  | _, _, _, F, ρ, ρ', pvs, .nil, E, h, _, _ => by
    obtain ⟨rfl, rfl⟩ := Prod.mk.inj (Option.some.inj h)
    exact ⟨[], .nil, .refl _⟩
  | _, _, _, F, ρ, ρ', pvs, .l (i := i) (as := as) (f := f) hv a, E, h, hq, hs => by
    rw [List.all_cons, Bool.and_eq_true] at hq
    unfold grab at h
    cases q : look ρ i with
    | none => rw [q] at h; cases h
    | some pv =>
      obtain ⟨m, d⟩ := pv
      rw [q] at h
      obtain ⟨v', f', G, h1, h2, p, E'⟩ := E.take q
      rw [hv] at h1
      cases h1
      cases q2 : grab as (Vs.put ρ i none) with
      | none => rw [q2] at h; cases h
      | some z =>
        obtain ⟨pvs', ρ2⟩ := z
        rw [q2] at h
        obtain ⟨rfl, rfl⟩ := Prod.mk.inj (Option.some.inj h)
        have hc : PV.cold (m, d) = true := by
          have := hq.1
          replace this : (match look ρ0 i with | some pv => pv.cold | none => false) = true := this
          rw [hs i _ q] at this
          exact this
        have hf : f' = [] := by
          unfold PV.cold at hc
          rw [Bool.or_eq_true] at hc
          rcases hc with c | c
          · have : m = 0 := by simpa using c
            subst this
            exact h2.own0
          · exact (h2.imm c).1
        subst hf
        obtain ⟨Fa, b1, b3⟩ := grab_quiet a E' q2 hq.2 fun j pv hj => hs j pv (look_putF hj)
        exact ⟨Fa, .live h2 b1 (.refl _), b3⟩
  | _, _, _, F, ρ, ρ', pvs, .o (f := f) (as := as) (g := g) r a, E, h, hq, hs => by
    rw [List.all_cons, Bool.and_eq_true] at hq
    unfold grab at h
    cases q2 : grab as ρ with
    | none => rw [q2] at h; cases h
    | some z =>
      obtain ⟨pvs', ρ2⟩ := z
      rw [q2] at h
      obtain ⟨rfl, rfl⟩ := Prod.mk.inj (Option.some.inj h)
      obtain ⟨Fa, b1, b3⟩ := grab_quiet a E q2 hq.2 hs
      exact ⟨f ++ Fa, .live r b1 (.refl _), List.Perm.append_left _ b3⟩
/-- what waits is used up -/
theorem Fit.use {o : Option Vs.Env} {S S1 S2 : Addr → Prop} {F F1 f Fa fr Fo : List Addr} {H H1 H2 : Hp} (t1 : Fit o S F H S1 F1 f H1) (p : Fa.Perm f) (st2 : Step S1 Fa H1 S2 (fr ++ Fo) H2) : Fit o S F H S2 F1 fr H2 := by
  cases o with
  | none =>
    obtain ⟨e, u1, u2, rfl, n⟩ := t1
    have hn : ∀ b, b ∈ Fa ∨ H1 b = none → H b = none := fun b hb => by
      rcases hb with z | z
      · exact n b (p.mem_iff.mp z)
      · cases q : H b with
        | none => rfl
        | some o => rw [e b o q] at z; cases z
    refine ⟨fun b o q => st2.keep b o (e b o q) fun z => ?_, fun b hb => st2.sub b (u1 b hb), fun b hb => (st2.newS b hb).elim (u2 b) fun z => .inr (hn b z), rfl, fun b hb => hn b (st2.newF b (List.mem_append_left _ hb))⟩
    rw [hn b (.inl z)] at q
    cases q
  | some _ =>
    have t1 : Step S F H S1 (f ++ F1) H1 := t1
    exact t1.trans (st2.wide (fun b hb => List.mem_append_left _ (p.mem_iff.mp hb)) fun b hb => (List.mem_append.mp hb).elim (fun z => .inl (List.mem_append_left _ z)) fun z => .inr (List.mem_append_right _ z))
/-- what a call does, once its arguments are there -/
theorem run_call {x : V} {n : Nat} {W : WX} {m : List PV → RF} {df : List PV} {dvs : List V} {t : TA} {S : Addr → Prop} {F : List Addr} {H : Hp} {σ : L2.St} {ρ : Vs.Env} {Q : VK} (hd : DfOk X.K df dvs) (hn : as.length + dvs.length = n)
    (r : ∀ S F H σ ρ Q, EnvRp X.K S H σ ρ F → Ok S H F → Good X.K ct (AvOk X.K σ) W S F H σ ρ (cargs as ρ) Q → t σ H Q) (E : EnvRp X.K S H σ ρ F) (ok : Ok S H F) (G : Good X.K ct (VOk X.K) W S F H σ ρ (call m df as ρ) Q) :
    t σ H fun vs H1 => SpF X.K ct n m (vs ++ dvs) H1 Q fun C d H' => W C d σ H' := by
  refine r S F H σ ρ _ E ok ?_
  unfold call at G
  refine good_bind G fun avs0 o vs0 S1 F1 H1 f hr t1 h0 E1 k1 G => ?_
  have hlen : avs0.length = as.length := cargs_len hr
  have h1 : AvOk X.K σ S1 H1 (avs0 ++ df.map .o) (vs0 ++ dvs) f := h0.append (AvOk.nils hd)
  have hlen2 : (vs0 ++ dvs).length = n := by
    rw [List.length_append, ← h0.len, hlen]
    exact hn
  generalize avs0 ++ df.map .o = avs at h1 G
  generalize vs0 ++ dvs = vs at h1 hlen2 ⊢
  cases q : grab avs (now o ρ) with
  | none => rw [q] at G; exact G.elim
  | some z =>
    obtain ⟨pvs, ρ2⟩ := z
    rw [q] at G
    obtain ⟨Fa, F', b1, b2, b3⟩ := grab_ok h1 E1 q
    by_cases hc : avs.all (AV.quiet (now o ρ)) = true
    · have G : Good X.K ct (VOk X.K) W S F H σ ρ ((if avs.all (AV.quiet (now o ρ)) = true then (m pvs).pure (now o ρ) else (m pvs).fin avs ρ2).aft o) Q := G
      rw [if_pos hc] at G
      obtain ⟨Fq, c1, c2⟩ := grab_quiet h1 E1 q hc fun _ _ z => z
      have kq : Ok S1 H1 (Fq ++ F1) := k1.perm (List.Perm.append_right _ c2.symm)
      have kq' : Ok S1 H1 (F1 ++ Fq) := kq.perm List.perm_append_comm
      refine ⟨S1, Fq, pvs, c1, kq.head, hlen2, ?_⟩
      cases qm : m pvs with
      | no => rw [qm] at G; exact G.elim
      | ok rv out =>
        rw [qm] at G
        intro v S2 H2 Fo fr st2 hv EO k4
        have k5 : Ok S2 H2 (F1 ++ (fr ++ Fo)) := Ok.join st2 kq' k4
        have k6 : Ok S2 H2 (fr ++ F1) := (k5.perm (List.perm_iff_count.mpr fun b => (by simp only [List.count_append]; omega) : (F1 ++ (fr ++ Fo)).Perm (Fo ++ (fr ++ F1)))).tail
        exact G v S2 F1 H2 fr (t1.use c2 st2) (by rw [VOk.own]; exact hv) (E1.step st2 kq.head fun b hb z => kq.apart b z hb) k6
      | ex ee out =>
        rw [qm] at G
        intro C d S2 H2 Fo st2 EO k4 hx
        have k5 : Ok S2 H2 (F1 ++ Fo) := Ok.join st2 kq' k4
        have st3 : Step S1 (f ++ F1) H1 S2 F1 H2 := st2.wide (fun b hb => List.mem_append_left _ (c2.mem_iff.mp hb)) fun b hb => .inr (List.mem_append_right _ hb)
        exact G C d S2 F1 H2 (t1.step.trans st3) (E1.step st2 kq.head fun b hb z => kq.apart b z hb) k5.head hx
    replace G : Good X.K ct (VOk X.K) W S F H σ ρ ((if avs.all (AV.quiet (now o ρ)) = true then (m pvs).pure (now o ρ) else (m pvs).fin avs ρ2).aft o) Q := G
    rw [if_neg hc] at G
    have k2 : Ok S1 H1 (Fa ++ F') := k1.perm b3
    have k2' : Ok S1 H1 (F' ++ Fa) := k2.perm List.perm_append_comm
    refine ⟨S1, Fa, pvs, b1, k2.head, hlen2, ?_⟩
    have st0 : Step S F H S1 (Fa ++ F') H1 := t1.step.less fun b hb => b3.mem_iff.mpr hb
    cases qm : m pvs with
    | no => rw [qm] at G; exact G.elim
    | ok rv out =>
      rw [qm] at G
      intro v S2 H2 Fo fr st2 hv EO k4
      have E3 : EnvRp X.K S2 H2 σ ρ2 F' := b2.step st2 k2.head fun b hb z => k2.apart b z hb
      obtain ⟨G2, F2, p, E4⟩ := back_ok h1 EO E3
      have k5 : Ok S2 H2 (F' ++ (fr ++ Fo)) := Ok.join st2 k2' k4
      have p6 : (F' ++ (fr ++ Fo)).Perm (G2 ++ (fr ++ F2)) := by
        refine List.perm_append_comm.trans ?_
        rw [List.append_assoc]
        exact (List.Perm.append_left _ p).trans perm_mid
      have st3 : Step S1 (Fa ++ F') H1 S2 (fr ++ F2) H2 := st2.wide (fun b hb => List.mem_append_left _ hb) fun b hb => by
        have := p6.mem_iff.mpr (List.mem_append_right G2 hb)
        rcases List.mem_append.mp this with z | z
        · exact .inr (List.mem_append_right _ z)
        · exact .inl z
      exact G v S2 F2 H2 fr (st0.trans st3) (by rw [VOk.own]; exact hv) E4 (k5.perm p6).tail
    | ex ee out =>
      rw [qm] at G
      intro C d S2 H2 Fo st2 EO k4 hx
      have E3 : EnvRp X.K S2 H2 σ ρ2 F' := b2.step st2 k2.head fun b hb z => k2.apart b z hb
      obtain ⟨G2, F2, p, E4⟩ := back_ok h1 EO E3
      have k5 : Ok S2 H2 (F' ++ Fo) := Ok.join st2 k2' k4
      have p6 : (F' ++ Fo).Perm (G2 ++ F2) := List.perm_append_comm.trans p
      have st3 : Step S1 (Fa ++ F') H1 S2 F2 H2 := st2.wide (fun b hb => List.mem_append_left _ hb) fun b hb => by
        have := p6.mem_iff.mpr (List.mem_append_right G2 hb)
        rcases List.mem_append.mp this with z | z
        · exact .inr (List.mem_append_right _ z)
        · exact .inl z
      exact G C d S2 F2 H2 (st0.trans st3) E4 (k5.perm p6).tail hx
end
section
variable {ct : Str → Addr} {X : Cx} {W : WX} {k : Nat} {f : Addr} {fd : FuncData} {ps : List Str} {m : List PV → RF} {as : List AK} {df : List PV} {dvs : List V} {ds : List Value}
theorem s_call {x : Str} {p pos : Pos} {e : Expr} {es : List Expr} (F : Fn X.prog X.w X.K X.mg X.base ct k f fd ps m) (hgd : X.A.guards = some []) (hr : Room k X.A) (hg : Gl X x) (hm : X.mg x = some (.ref f)) (hk : PySem.W.keepIn X.K (.ref f) = true) (hb : Binds X.K fd ps ds) (hdv : Vals dvs ds) (hd : DfOk X.K df dvs)
    (ha : SC ct X (e :: es) (cargs as)) (hn : as.length + dvs.length = ps.length) (hdb : (x == ("__debug__" : Str)) = false := by decide) (he : starEach (e :: es) X.env = (false, eval e X.env) :: starEach es X.env := by rfl) (hpl : (backTo pos (starEach es X.env)).any (·.1) = false := by rfl) :
    SE ct X (.Call (.Name x p) (e :: es) [] pos) (call m df as) := by
  refine ⟨fun W tk => ?_⟩
  obtain ⟨t, pa, r⟩ := ha.run W tk
  refine ⟨fun σ H Q => t σ H fun vs H1 => SpF X.K ct ps.length m (vs ++ dvs) H1 Q fun C d H' => W C d σ H', ⟨fun pins s σ H Q I h => ?_⟩, fun S F H σ ρ Q E ok G => run_call (x := .non) hd hn r E ok G⟩
  refine wpAny_Call_Name_kw (ld_glob I hg hm ?_ hdb)
  refine PySem.W.callWith_K (h₀ := X.base) I.ok.mod.kin hk (L2.thn (pa.run pos pins s σ H _ I h) fun us s1 ⟨vs, H1, I1, rv, q⟩ => ⟨I1.kIn, ?_⟩) he hpl
  have hl : (us ++ ds).length = ps.length := by
    obtain ⟨_, _, _, _, _, z, _⟩ := q
    rw [List.length_append, ← rv.length, ← hdv.length, ← List.length_append, z]
  refine wpAny_call (codeAny_mono (F.run X.A X.stack s1 H1 ⟨us, []⟩ (us ++ ds) (vs ++ dvs) Q _ hgd hr I1.env0 (hb s1 us I1.kIn hl) (rv.append hdv) q) fun rr s' hq => ?_)
  cases rr with
  | error e => exact L2N.passAt tk σ pins H1 s1 e s' I1 hq
  | ok fl =>
    cases fl with
    | ret u => exact I1.after hq
    | next => exact False.elim hq
    | brk => exact False.elim hq
    | cont => exact False.elim hq
end
end Vs
set_option maxHeartbeats 4000000
/-! Vs: operators. -/
namespace Vs
open PySem PySem.Spec PyProof.Rows L2
theorem lim_eq : lim = sizeLine := by rw [sizeLine_eq]; rfl
/-- either rule -/
theorem OpR.or {X : Cx} {f : Value → Value → Sem Value} {r r' : R2} (h : OpR X f r) (h' : OpR X f r') : OpR X f (fun x y H Q => r x y H Q ∨ r' x y H Q) :=
  fun pins s σ H x y v u Q I rx ry q => q.elim (h pins s σ H x y v u Q I rx ry) (h' pins s σ H x y v u Q I rx ry)
section
variable {K : PySem.W.Frag} {S S' : Addr → Prop} {H : Hp} {f g : List Addr} {Q : VK}
theorem Ok.nil (ok : Ok S H f) : Ok S H [] := ok.sub (List.nil_sublist _)
/-- a value without a place is handed back -/
theorem ret_imm {b : Bool} {m : Nat} {d : D} {v : V} (ok : Ok S H f) (i : d.imm = true) (r : Rp K S H m v d []) (hQ : ∀ w H' S' h, Grow S H f S' h H' → VOk K S' H' ⟨b, m, d⟩ w h → Ok S' H' h → Q w H') : Q v H :=
  hQ v H S [] Grow.refl (.of_rp (by simp [VV.stable, i]) r) ok.nil
/-- a new list, a new tuple -/
theorem new_grow {p : Addr} {o : HO} {h : List Addr} (ok : Ok S H f) (hp : H p = none) (u1 : ∀ b, S b → S' b) (u2 : ∀ b, S' b → S b ∨ b ∈ f) (hh : ∀ b ∈ h, b ∈ f ∨ b = p) : Grow S H f S' h (upd H p o) :=
  ⟨same_upd hp, u1, fun b hb => (u2 b hb).imp id .inl, fun b hb => (hh b hb).imp id fun z => by rw [z]; exact hp⟩
theorem new_ok {p : Addr} {o : HO} (ok' : Ok S' H g) (hp : H p = none) : Ok S' (upd H p o) g := ok'.same (same_upd hp)
theorem new_okp {p : Addr} {o : HO} (ok' : Ok S' H g) (hp : H p = none) (hm : Mut (some o)) : Ok S' (upd H p o) (p :: g) := by
  have k := new_ok (o := o) ok' hp
  refine ⟨List.nodup_cons.mpr ⟨fun z => ok'.mem z hp, k.nd⟩, fun b hb => ?_, fun b hb => ?_, k.tr⟩
  · rcases List.mem_cons.mp hb with rfl | z
    · rw [upd_same]; exact hm
    · exact k.mu b z
  · rcases List.mem_cons.mp hb with rfl | z
    · exact fun q => ok'.tr b q hp
    · exact k.ns b z
theorem ret_lst {m : Nat} {xs : List V} {ds : List D} (ok : Ok S H f) (u1 : ∀ b, S b → S' b) (u2 : ∀ b, S' b → S b ∨ b ∈ f) (ok' : Ok S' H g) (hg : ∀ b ∈ g, b ∈ f) (r : RpAll K S' H m xs ds g)
    (hQ : ∀ w H' S' h, Grow S H f S' h H' → VOk K S' H' ⟨false, m + 1, .lst ds⟩ w h → Ok S' H' h → Q w H') (p : Addr) (hp : H p = none) : Q (.ref p) (upd H p (.lst xs)) :=
  hQ _ _ S' (p :: g) (new_grow ok hp u1 u2 fun b hb => (List.mem_cons.mp hb).elim .inr fun z => .inl (hg b z)) (by rw [VOk.own]; exact .lst1 upd_same (r.same (same_upd hp))) (new_okp ok' hp trivial)
theorem ret_tup {m : Nat} {xs : List V} {ds : List D} (ok : Ok S H f) (u1 : ∀ b, S b → S' b) (u2 : ∀ b, S' b → S b ∨ b ∈ f) (ok' : Ok S' H g) (hg : ∀ b ∈ g, b ∈ f) (r : RpAll K S' H m xs ds g)
    (hQ : ∀ w H' S' h, Grow S H f S' h H' → VOk K S' H' ⟨false, m + 1, .tup ds⟩ w h → Ok S' H' h → Q w H') (p : Addr) (hp : H p = none) : Q (.ref p) (upd H p (.tup xs)) :=
  hQ _ _ S' g (new_grow ok hp u1 u2 fun b hb => .inl (hg b hb)) (by rw [VOk.own]; exact .tup1 upd_same (r.same (same_upd hp))) (new_ok ok' hp)
/-- a list whose items may be kept elsewhere -/
theorem opn {F : List Addr} {b : Bool} {m : Nat} {ds : List D} {v : V} (h : VOk K S H ⟨b, m, .lst ds⟩ v f) (ok : Ok S H (f ++ F)) (ho : VV.open ⟨b, m, .lst ds⟩) :
    ∃ a xs S', v = .ref a ∧ SqL K H a xs ∧ (∀ b, S b → S' b) ∧ (∀ b, S' b → S b ∨ b ∈ f) ∧ RpAll K S' H 0 xs ds [] ∧ Ok S' H F := by
  by_cases hb : b = false ∨ m = 0
  · obtain ⟨S', u1, u2, r, k⟩ := froze' h ok hb
    obtain ⟨a, xs, rfl, q1, q2⟩ := r.lst0'
    exact ⟨a, xs, S', rfl, q2 _ _ Later.refl, u1, u2, q1, k⟩
  · obtain ⟨rfl, rfl⟩ : b = true ∧ m = 1 := by
      have ho : b = false ∨ m ≤ 1 := ho
      cases b with
      | false => exact absurd (.inl rfl) hb
      | true =>
        have : ¬ m = 0 := fun z => hb (.inr z)
        rcases ho with z | z
        · cases z
        · exact ⟨rfl, by omega⟩
    rw [VOk.bor] at h
    obtain ⟨rfl, g, h⟩ := h
    obtain ⟨a, xs, g', rfl, r1, r2, _⟩ := h.lst
    obtain rfl := r2.own0
    exact ⟨a, xs, S, rfl, r1, fun _ z => z, fun _ => .inl, r2, ok⟩
theorem opnT {F : List Addr} {b : Bool} {m : Nat} {ds : List D} {v : V} (h : VOk K S H ⟨b, m, .tup ds⟩ v f) (ok : Ok S H (f ++ F)) (ho : VV.open ⟨b, m, .tup ds⟩) :
    ∃ a xs S', v = .ref a ∧ SqT K H a xs ∧ (∀ b, S b → S' b) ∧ (∀ b, S' b → S b ∨ b ∈ f) ∧ RpAll K S' H 0 xs ds [] ∧ Ok S' H F := by
  by_cases hb : b = false ∨ m = 0
  · obtain ⟨S', u1, u2, r, k⟩ := froze' h ok hb
    obtain ⟨a, xs, rfl, q1, q2⟩ := r.tup0'
    exact ⟨a, xs, S', rfl, q2 _ _ Later.refl, u1, u2, q1, k⟩
  · obtain ⟨rfl, rfl⟩ : b = true ∧ m = 1 := by
      have ho : b = false ∨ m ≤ 1 := ho
      cases b with
      | false => exact absurd (.inl rfl) hb
      | true =>
        have : ¬ m = 0 := fun z => hb (.inr z)
        rcases ho with z | z
        · cases z
        · exact ⟨rfl, by omega⟩
    rw [VOk.bor] at h
    obtain ⟨rfl, g, h⟩ := h
    obtain ⟨a, xs, rfl, r1, r2⟩ := h.tup
    obtain rfl := r2.own0
    exact ⟨a, xs, S, rfl, r1, fun _ z => z, fun _ => .inl, r2, ok⟩
theorem VOk.int {x : VV} {i : Int} {v : V} (h : VOk K S H x v f) (e : x.d = .int i) : v = .int i := by
  obtain ⟨g, h⟩ := h.rp
  rw [e] at h
  exact h.vint
theorem VOk.str {x : VV} {i : Str} {v : V} (h : VOk K S H x v f) (e : x.d = .str i) : v = .str i := by
  obtain ⟨g, h⟩ := h.rp
  rw [e] at h
  exact h.vstr
theorem VOk.bl {x : VV} {i : Bool} {v : V} (h : VOk K S H x v f) (e : x.d = .bl i) : v = .bl i := by
  obtain ⟨g, h⟩ := h.rp
  rw [e] at h
  exact h.vbl
end

/-! ### ints -/
section
variable {X : Cx} {K : PySem.W.Frag}
/-- a rule of two ints -/
theorem op2_int {C : Int → Int → Prop} {φ : Int → Int → V} {k : VV → VV → Option VV} (hk : ∀ x y z, k x y = some z → ∃ i j, x.d = .int i ∧ y.d = .int j ∧ C i j ∧ z.d.imm = true ∧ ∀ S H, Rp K S H z.m (φ i j) z.d []) :
    Op2 K (rI C φ) k := fun S H x v f y u g z Q h1 h2 ok e hQ => by
  obtain ⟨i, j, e1, e2, c, im, r⟩ := hk x y z e
  exact ⟨i, j, h1.int e1, h2.int e2, c, ret_imm ok im (r S H) hQ⟩
theorem op2_int0 {φ : Int → Int → V} {k : VV → VV → Option VV} (hk : ∀ x y z, k x y = some z → ∃ i j, x.d = .int i ∧ y.d = .int j ∧ z.d.imm = true ∧ ∀ S H, Rp K S H z.m (φ i j) z.d []) :
    Op2 K (rI0 φ) k := fun S H x v f y u g z Q h1 h2 ok e hQ => by
  obtain ⟨i, j, e1, e2, im, r⟩ := hk x y z e
  exact ⟨i, j, h1.int e1, h2.int e2, ret_imm ok im (r S H) hQ⟩
theorem kCmp_op {φ : Int → Int → Bool} : Op2 K (rI0 fun i j => .bl (φ i j)) (kCmp φ) := op2_int0 fun x y z e => by
  unfold kCmp at e
  split at e
  · rename_i i j h1 h2
    obtain rfl := Option.some.inj e
    exact ⟨i, j, h1, h2, rfl, fun _ _ => .bl _ _⟩
  · cases e
theorem kSub_op : Op2 K (rI0 fun i j => .int (i - j)) kSub := op2_int0 fun x y z e => by
  unfold kSub at e
  split at e
  · rename_i i j h1 h2
    obtain rfl := Option.some.inj e
    exact ⟨i, j, h1, h2, rfl, fun _ _ => .int _ _⟩
  · cases e
theorem kMod_op : Op2 K (rI (fun _ j => 0 < j) fun i j => .int (i % j)) kMod := op2_int fun x y z e => by
  unfold kMod at e
  split at e
  · rename_i i j h1 h2
    split at e
    · rename_i c
      obtain rfl := Option.some.inj e
      exact ⟨i, j, h1, h2, c, rfl, fun _ _ => .int _ _⟩
    · cases e
  · cases e
theorem big_pos : (0 : Nat) < 4000 := by decide
theorem kDiv_op : Op2 K (rI CDivW fun i j => .int (i / j)) kDiv := op2_int fun x y z e => by
  unfold kDiv at e
  split at e
  · rename_i i j h1 h2
    split at e
    · rename_i c
      obtain rfl := Option.some.inj e
      exact ⟨i, j, h1, h2, wide_div c.1 (by have := c.2; rw [big_eq] at this; exact this) big_pos (by decide), rfl, fun _ _ => .int _ _⟩
    · cases e
  · cases e
/-- a power of great ints -/
theorem bits_big {i : Int} (h : i.natAbs < big) : Builtin.Int.intBits i ≤ 4000 := by
  unfold Builtin.Int.intBits
  split
  · omega
  · exact PySem.Flt.log2_lt_of big_pos (by rw [big_eq] at h; exact h)
theorem op_powB : OpR X (binaryOp .Pow) (rI (fun i j => i.natAbs < big ∧ 0 ≤ j ∧ j ≤ 100) fun i j => .int (i ^ j.toNat)) := opI fun i j t u s Q E hc q => by
  have hb := bits_big hc.1
  refine pow_int hc.2.1 ?_ q
  have h1 : (Builtin.Int.intBits i : Int) * j ≤ 4000 * j := Int.mul_le_mul_of_nonneg_right (by omega) hc.2.1
  have := hc.2.2
  omega
theorem kPow_op : Op2 K (rI (fun i j => i.natAbs < big ∧ 0 ≤ j ∧ j ≤ 100) fun i j => .int (i ^ j.toNat)) kPow := op2_int fun x y z e => by
  unfold kPow at e
  split at e
  · rename_i i j h1 h2
    split at e
    · rename_i c
      obtain rfl := Option.some.inj e
      exact ⟨i, j, h1, h2, c, rfl, fun _ _ => .int _ _⟩
    · cases e
  · cases e
end

/-! ### +, *, lists -/
section
variable {X : Cx} {K : PySem.W.Frag}
/-- list + list, whatever lists -/
def rCatL (K : PySem.W.Frag) : R2 := fun x y H Q => ∃ a b xs ys, x = .ref a ∧ y = .ref b ∧ SqL K H a xs ∧ SqL K H b ys ∧ xs.length + ys.length ≤ sizeLine ∧ ∀ p, H p = none → Q (.ref p) (upd H p (.lst (xs ++ ys)))
theorem op_catL : OpR X (binaryOp .Add) (rCatL X.K) := by
  intro pins s σ H x y v u Q I rx ry h
  obtain ⟨a, b, xs, ys, rfl, rfl, h1, h2, hz, q⟩ := h
  cases rx
  cases ry
  obtain ⟨as, ra, pa, _⟩ := I.list h1
  obtain ⟨bs, rb, pb, _⟩ := I.list h2
  obtain ⟨⟨c1, d1, t1, l1⟩, g1, m1, n1, e1⟩ := pa.isList
  obtain ⟨⟨c2, d2, t2, l2⟩, g2, m2, n2, e2⟩ := pb.isList
  simp only at m1 e1 m2 e2
  subst m1 e1 m2 e2
  have hs : as.length + bs.length ≤ sizeLine := by rw [← ra.length, ← rb.length]; exact hz
  refine concat_meets ⟨_, g1, rfl⟩ ⟨_, g2, rfl⟩ noFill_list_add seq_list_add PySem.F.slot_list_add PySem.F.entry_list_add (PySem.F.args_list_add_2 _ _) (list_addW a b as.toArray bs.toArray n1 n2 d1 d2 l1 l2 (by simpa using hs)) ⟨g1, g2, ?_⟩
  rw [show as.toArray ++ bs.toArray = (as ++ bs).toArray by simp]
  exact ⟨.ref _, _, I.lnew (t' := s.toks) (ra.append rb) (by rw [List.length_append]; omega), rfl, q _ I.fresh⟩
def rAdd3 (K : PySem.W.Frag) : R2 := fun x y H Q => rI0 (fun i j => .int (i + j)) x y H Q ∨ (∃ i j, x = .str i ∧ y = .str j ∧ i.length + j.length ≤ sizeLine ∧ Q (.str (i ++ j)) H) ∨ rCatL K x y H Q
theorem op_add3 : OpR X (binaryOp .Add) (rAdd3 X.K) := OpR.or op_add (OpR.or op_add_str op_catL)
theorem kAdd_op : Op2 K (rAdd3 K) kAdd := fun S H x v f y u g z Q h1 h2 ok e hQ => by
  unfold kAdd at e
  split at e
  · rename_i i j e1 e2
    obtain rfl := Option.some.inj e
    exact .inl ⟨i, j, h1.int e1, h2.int e2, ret_imm ok rfl (.int _ _) hQ⟩
  · rename_i i j e1 e2
    split at e
    · rename_i c
      obtain rfl := Option.some.inj e
      rw [lim_eq] at c
      exact .inr (.inl ⟨i, j, h1.str e1, h2.str e2, c, ret_imm ok rfl (.str _ _) hQ⟩)
    · cases e
  · rename_i l k e1 e2
    split at e
    · rename_i c
      obtain rfl := Option.some.inj e
      obtain ⟨b1, m1, d1⟩ := x
      obtain ⟨b2, m2, d2⟩ := y
      obtain rfl : d1 = .lst l := e1
      obtain rfl : d2 = .lst k := e2
      obtain ⟨a, xs, S1, rfl, q1, u1, u2, r1, k1⟩ := opn h1 ok c.1
      have k1' : Ok S1 H (g ++ []) := by rw [List.append_nil]; exact k1
      obtain ⟨a', ys, S2, rfl, q2, w1, w2, r2, k2⟩ := opn (h2.more u1) k1' c.2.1
      refine .inr (.inr ⟨a, a', xs, ys, rfl, rfl, q1, q2, ?_, fun p hp => ?_⟩)
      · rw [r1.length, r2.length, ← lim_eq]
        exact c.2.2
      · refine ret_lst ok (fun b hb => w1 b (u1 b hb)) (fun b hb => ?_) k2 (by simp) (RpAll.append (r1.more w1) r2) hQ p hp
        rcases w2 b hb with z | z
        · exact (u2 b z).imp id (List.mem_append_left _)
        · exact .inr (List.mem_append_right _ z)
    · cases e
  · cases e
/-- list * int, whatever list -/
def rRepL' (K : PySem.W.Frag) : R2 := fun x y H Q => ∃ a k xs, x = .ref a ∧ y = .int k ∧ H a = some (.lst xs) ∧ -(2 ^ 63) ≤ k ∧ k < 2 ^ 63 ∧ xs.length * k.toNat ≤ sizeLine ∧ ∀ p, H p = none → Q (.ref p) (upd H p (.lst (List.replicate k.toNat xs).flatten))
def rMul2 : R2 := fun x y H Q => rI CMulX (fun i j => .int (i * j)) x y H Q ∨ (rI CMul (fun i j => .int (i * j)) x y H Q ∨ rRep x y H Q)
theorem op_mul2 : OpR X (binaryOp .Mult) rMul2 := OpR.or op_mulX (OpR.or op_mul op_rep)
theorem RpAll.rep {S : Addr → Prop} {H : Hp} {xs : List V} {ds : List D} (h : RpAll K S H 0 xs ds []) : ∀ n, RpAll K S H 0 (List.replicate n xs).flatten (List.replicate n ds).flatten []
  | 0 => .nil _
  | n + 1 => by
    rw [List.replicate_succ, List.replicate_succ, List.flatten_cons, List.flatten_cons]
    exact RpAll.append (f := []) (g := []) h (RpAll.rep h n)
theorem kMul_op : Op2 K rMul2 kMul := fun S H x v f y u g z Q h1 h2 ok e hQ => by
  unfold kMul at e
  split at e
  · rename_i i j e1 e2
    split at e
    · rename_i c
      obtain rfl := Option.some.inj e
      rw [big_eq] at c
      rcases c with c | c
      · exact .inl ⟨i, j, h1.int e1, h2.int e2, mulx_ok c.1 c.2 (by decide), ret_imm ok rfl (.int _ _) hQ⟩
      · exact .inr (.inl ⟨i, j, h1.int e1, h2.int e2, .inr ⟨by omega, by omega⟩, ret_imm ok rfl (.int _ _) hQ⟩)
    · cases e
  · rename_i l k e1 e2
    split at e
    · rename_i c
      obtain rfl := Option.some.inj e
      obtain ⟨b1, m1, d1⟩ := x
      obtain rfl : d1 = .lst l := e1
      have hk := h2.int e2
      obtain ⟨hb, c⟩ := c
      obtain rfl : b1 = false := hb.1
      rw [VOk.own] at h1
      obtain ⟨a, xs, g', rfl, q1, r1, q2, q3⟩ := h1.lst
      have hm : m1 ≠ 0 := fun z => by
        have h0 : 0 < m1 := hb.2
        omega
      obtain ⟨q4, rfl⟩ := q3 hm
      obtain ⟨f0, f1, p, r2⟩ := r1.thin 0
      rw [Nat.min_zero] at r2
      obtain rfl := r2.own0
      rw [List.nil_append] at p
      have okf : Ok S H (f1 ++ g) := by
        have : Ok S H (a :: (g' ++ g)) := ok
        have : Ok S H (g' ++ g) := this.sub (List.sublist_cons_self _ _)
        exact this.perm (List.Perm.append_right _ p)
      refine .inr (.inr ⟨a, k, xs, rfl, hk, q4, c.1, c.2.1, by rw [r1.length, ← lim_eq]; exact c.2.2, fun pp hp => ?_⟩)
      refine ret_lst (S' := fun b => S b ∨ b ∈ f1) (g := []) ok (fun b => Or.inl) (fun b hb => hb.imp id fun z => ?_) ⟨.nil, by simp, by simp, fun b hb => hb.elim (ok.tr b) fun z => okf.mem (List.mem_append_left _ z)⟩ (by simp) (RpAll.rep r2 _) hQ pp hp
      exact List.mem_append_left _ (List.mem_cons_of_mem _ (p.mem_iff.mpr z))
    · cases e
  · cases e

/-! ### ==, in, is -/
theorem shp_flat {d : D} (h : d.shp = true) : d.flat = true ∧ SeqAt.shaped d.py = true := by
  unfold D.shp at h
  rwa [Bool.and_eq_true] at h
theorem VOk.dp {S : Addr → Prop} {H : Hp} {x : VV} {v : V} {f : List Addr} (h : VOk K S H x v f) (s : x.d.shp = true) : Dp K H v x.d.py := by
  obtain ⟨g, h⟩ := h.rp
  exact h.dp (shp_flat s).1
def rEqS (K : PySem.W.Frag) : R2 := fun x y H Q => (∃ a b : Str, x = .str a ∧ y = .str b ∧ Q (.bl (decide (a = b))) H) ∨ rEqD K x y H Q
def rNeS (K : PySem.W.Frag) : R2 := fun x y H Q => (∃ a b : Str, x = .str a ∧ y = .str b ∧ Q (.bl (!decide (a = b))) H) ∨ rNeD K x y H Q
theorem dec_strV {a b : Str} : decide (V.str a = V.str b) = decide (a = b) := by
  rw [Bool.eq_iff_iff]
  simp
theorem op_eqS {X : Cx} (hu : X.A.units + 65 < cLine) : OpR X (compareOp .Eq) (rEqS X.K) := OpR.or (fun pins s σ H x y v u Q I rx ry h => by
  obtain ⟨a, b, rfl, rfl, q⟩ := h
  exact op_eq pins s σ H _ _ v u Q I rx ry ⟨rfl, by rw [dec_strV]; exact q⟩) (op_eqD (by omega))
theorem op_neS {X : Cx} (hu : X.A.units + 65 < cLine) : OpR X (compareOp .NotEq) (rNeS X.K) := OpR.or (fun pins s σ H x y v u Q I rx ry h => by
  obtain ⟨a, b, rfl, rfl, q⟩ := h
  exact op_ne pins s σ H _ _ v u Q I rx ry ⟨rfl, by rw [dec_strV]; exact q⟩) (op_neD (by omega))
theorem strs2_some {x y : D} {b : Bool} (h : strs2 x y = some b) : ∃ s t : Str, x = .str s ∧ y = .str t ∧ b = decide (s = t) := by
  unfold strs2 at h
  split at h
  · exact ⟨_, _, rfl, rfl, (Option.some.inj h).symm⟩
  · cases h
theorem kEq_op : Op2 K (rEqS K) kEq := fun S H x v f y u g z Q h1 h2 ok e hQ => by
  unfold kEq at e
  split at e
  · rename_i b q
    obtain ⟨s, t, e1, e2, rfl⟩ := strs2_some q
    obtain rfl := Option.some.inj e
    exact .inl ⟨s, t, h1.str e1, h2.str e2, ret_imm ok rfl (.bl _ _) hQ⟩
  · split at e
    · rename_i c
      obtain rfl := Option.some.inj e
      exact .inr ⟨_, _, h1.dp c.1, h2.dp c.2, (shp_flat c.1).2, (shp_flat c.2).2, ret_imm ok rfl (.bl _ _) hQ⟩
    · cases e
theorem kNe_op : Op2 K (rNeS K) kNe := fun S H x v f y u g z Q h1 h2 ok e hQ => by
  unfold kNe at e
  split at e
  · rename_i b q
    obtain ⟨s, t, e1, e2, rfl⟩ := strs2_some q
    obtain rfl := Option.some.inj e
    exact .inl ⟨s, t, h1.str e1, h2.str e2, ret_imm ok rfl (.bl _ _) hQ⟩
  · split at e
    · rename_i c
      obtain rfl := Option.some.inj e
      exact .inr ⟨_, _, h1.dp c.1, h2.dp c.2, (shp_flat c.1).2, (shp_flat c.2).2, ret_imm ok rfl (.bl _ _) hQ⟩
    · cases e
theorem pyAll_eq : ∀ l : List D, pyAll l = l.map D.py
  | [] => rfl
  | d :: ds => by rw [pyAll, pyAll_eq ds, List.map_cons]
/-- in, a tuple -/
def rInT (K : PySem.W.Frag) : R2 := fun x y H Q => ∃ d ds, Dp K H x d ∧ Dp K H y (.tuple ds) ∧ SeqAt.shaped d = true ∧ SeqAt.shaped (.tuple ds) = true ∧ Q (.bl (ds.any fun z => PyData.eqv z d)) H
def rNotInT (K : PySem.W.Frag) : R2 := fun x y H Q => ∃ d ds, Dp K H x d ∧ Dp K H y (.tuple ds) ∧ SeqAt.shaped d = true ∧ SeqAt.shaped (.tuple ds) = true ∧ Q (.bl (!ds.any fun z => PyData.eqv z d)) H
theorem room_in' {A : Around} {d : PyData} {k : Nat} (hd : SeqAt.shaped d = true) (hu : A.units + 65 < cLine) : A.units + 1 + min k d.depth < cLine := by
  have := SeqAt.depth_of_shaped hd
  omega
theorem op_inT (hu : X.A.units + 65 < cLine) : OpR X (compareOp .In) (rInT X.K) := fun pins s σ H x y v u Q I rx ry h => by
  obtain ⟨d, ds, hd, he, sd, se, q⟩ := h
  obtain ⟨as, r1⟩ := Dp.reads I d x v hd rx
  obtain ⟨bs, r2⟩ := Dp.reads I (.tuple ds) y u he ry
  exact SeqAt.in_tuple_reads r2 r1 (SeqAt.canLay_of_shaped se) (SeqAt.canLay_of_shaped sd) (room_in' sd hu) ⟨.bl _, H, I, rfl, q⟩
theorem op_notInT (hu : X.A.units + 65 < cLine) : OpR X (compareOp .NotIn) (rNotInT X.K) := fun pins s σ H x y v u Q I rx ry h => by
  obtain ⟨d, ds, hd, he, sd, se, q⟩ := h
  obtain ⟨as, r1⟩ := Dp.reads I d x v hd rx
  obtain ⟨bs, r2⟩ := Dp.reads I (.tuple ds) y u he ry
  exact SeqAt.notIn_tuple_reads r2 r1 (SeqAt.canLay_of_shaped se) (SeqAt.canLay_of_shaped sd) (room_in' sd hu) ⟨.bl _, H, I, rfl, q⟩
def rIn2 (K : PySem.W.Frag) : R2 := fun x y H Q => rInD K x y H Q ∨ rInT K x y H Q
def rNotIn2 (K : PySem.W.Frag) : R2 := fun x y H Q => rNotInD K x y H Q ∨ rNotInT K x y H Q
theorem op_in2 (hu : X.A.units + 65 < cLine) : OpR X (compareOp .In) (rIn2 X.K) := OpR.or (op_inD hu) (op_inT hu)
theorem op_notIn2 (hu : X.A.units + 65 < cLine) : OpR X (compareOp .NotIn) (rNotIn2 X.K) := OpR.or (op_notInD hu) (op_notInT hu)
theorem kIn_op : Op2 K (rIn2 K) kIn := fun S H x v f y u g z Q h1 h2 ok e hQ => by
  unfold kIn at e
  split at e
  · rename_i l el
    split at e
    · rename_i c
      obtain rfl := Option.some.inj e
      have q := h2.dp c.2
      have s := (shp_flat c.2).2
      rw [el, D.py, pyAll_eq] at q s
      refine .inr ⟨_, _, h1.dp c.1, q, (shp_flat c.1).2, s, ?_⟩
      rw [List.any_map]
      exact ret_imm ok rfl (.bl _ _) hQ
    · cases e
  · rename_i l el
    split at e
    · rename_i c
      obtain rfl := Option.some.inj e
      have q := h2.dp c.2
      have s := (shp_flat c.2).2
      rw [el, D.py, pyAll_eq] at q s
      refine .inl ⟨_, _, h1.dp c.1, q, (shp_flat c.1).2, s, ?_⟩
      rw [List.any_map]
      exact ret_imm ok rfl (.bl _ _) hQ
    · cases e
  · cases e
theorem kNotIn_op : Op2 K (rNotIn2 K) kNotIn := fun S H x v f y u g z Q h1 h2 ok e hQ => by
  unfold kNotIn at e
  split at e
  · rename_i l el
    split at e
    · rename_i c
      obtain rfl := Option.some.inj e
      have q := h2.dp c.2
      have s := (shp_flat c.2).2
      rw [el, D.py, pyAll_eq] at q s
      refine .inr ⟨_, _, h1.dp c.1, q, (shp_flat c.1).2, s, ?_⟩
      rw [List.any_map]
      exact ret_imm ok rfl (.bl _ _) hQ
    · cases e
  · rename_i l el
    split at e
    · rename_i c
      obtain rfl := Option.some.inj e
      have q := h2.dp c.2
      have s := (shp_flat c.2).2
      rw [el, D.py, pyAll_eq] at q s
      refine .inl ⟨_, _, h1.dp c.1, q, (shp_flat c.1).2, s, ?_⟩
      rw [List.any_map]
      exact ret_imm ok rfl (.bl _ _) hQ
    · cases e
  · cases e
def rIs2 : R2 := fun x y H Q => (y = .non ∧ Q (.bl (decide (x = .non))) H) ∨ rIsB x y H Q
def rIsNot2 : R2 := fun x y H Q => (y = .non ∧ Q (.bl (!decide (x = .non))) H) ∨ rNotB x y H Q
theorem op_is2 : OpR X (compareOp .Is) rIs2 := OpR.or op_isN op_isBl
theorem op_isNot2 : OpR X (compareOp .IsNot) rIsNot2 := OpR.or op_notN op_notBl
theorem isNon_ok {S : Addr → Prop} {H : Hp} {x : VV} {v : V} {f : List Addr} (h : VOk K S H x v f) : decide (v = .non) = x.d.isNon := by
  obtain ⟨g, h⟩ := h.rp
  generalize x.d = d at h ⊢
  generalize x.m = m at h
  cases h <;> rfl
theorem VOk.non {S : Addr → Prop} {H : Hp} {x : VV} {v : V} {f : List Addr} (h : VOk K S H x v f) (e : x.d = .non) : v = .non := by
  obtain ⟨g, h⟩ := h.rp
  rw [e] at h
  exact h.vnon
theorem kIs_op : Op2 K rIs2 kIs := fun S H x v f y u g z Q h1 h2 ok e hQ => by
  unfold kIs at e
  split at e
  · rename_i ey
    obtain rfl := Option.some.inj e
    refine .inl ⟨h2.non ey, ?_⟩
    rw [isNon_ok h1]
    exact ret_imm ok rfl (.bl _ _) hQ
  · rename_i b ey
    split at e
    · rename_i a ex
      obtain rfl := Option.some.inj e
      exact .inr ⟨a, b, h1.bl ex, h2.bl ey, ret_imm ok rfl (.bl _ _) hQ⟩
    · cases e
  · cases e
theorem kIsNot_op : Op2 K rIsNot2 kIsNot := fun S H x v f y u g z Q h1 h2 ok e hQ => by
  unfold kIsNot at e
  split at e
  · rename_i ey
    obtain rfl := Option.some.inj e
    refine .inl ⟨h2.non ey, ?_⟩
    rw [isNon_ok h1]
    exact ret_imm ok rfl (.bl _ _) hQ
  · rename_i b ey
    split at e
    · rename_i a ex
      obtain rfl := Option.some.inj e
      exact .inr ⟨a, b, h1.bl ex, h2.bl ey, ret_imm ok rfl (.bl _ _) hQ⟩
    · cases e
  · cases e

/-! ### items -/
theorem RpAll.atI {S : Addr → Prop} {H : Hp} {m : Nat} {xs : List V} {ds : List D} {f : List Addr} {i : Int} {e : D} (h : RpAll K S H m xs ds f) (q : atD ds i = some e) : ∃ u g1 g g2, L2.atI xs i = some u ∧ f = g1 ++ g ++ g2 ∧ Rp K S H m u e g := by
  unfold atD at q
  have en : nix ds.length i = ixN xs.length i := by rw [h.length]; rfl
  rw [en] at q
  unfold L2.atI
  cases z : ixN xs.length i with
  | none => rw [z] at q; cases q
  | some j =>
    rw [z] at q
    obtain ⟨u, g1, g, g2, a1, a2, a3, _⟩ := h.at (i := j) q
    exact ⟨u, g1, g, g2, a1, a2, a3⟩
/-- an item of a value, as it is handed on -/
theorem sub_ok {S : Addr → Prop} {H : Hp} {x : VV} {u : V} {e : D} {f g1 g g2 : List Addr} (ok : Ok S H f) (hb : x.b = false → f = g1 ++ g ++ g2 ∨ f.tail = g1 ++ g ++ g2) (h : Rp K S H (x.m - 1) u e g) :
    ∃ g', VOk K S H (sub x e) u g' ∧ Ok S H g' ∧ ∀ b ∈ g', b ∈ f := by
  unfold sub
  cases q : x.b with
  | true =>
    cases q2 : (x.m - 1 == 0) with
    | true =>
      have e0 : x.m - 1 = 0 := by simpa using q2
      rw [e0] at h ⊢
      obtain rfl := h.own0
      exact ⟨[], by show VOk K S H ⟨false, 0, e⟩ u []; rw [VOk.own]; exact h, ok.nil, by simp⟩
    | false => exact ⟨[], by show VOk K S H ⟨true, x.m - 1, e⟩ u []; rw [VOk.bor]; exact ⟨rfl, _, h⟩, ok.nil, by simp⟩
  | false =>
    have sl : g.Sublist f := by
      have s1 : g.Sublist (g1 ++ g ++ g2) := (List.sublist_append_right g1 g).trans (List.sublist_append_left _ _)
      rcases hb q with z | z
      · rw [z]; exact s1
      · rw [← z] at s1; exact s1.trans (List.tail_sublist f)
    exact ⟨g, by show VOk K S H ⟨false, x.m - 1, e⟩ u g; rw [VOk.own]; exact h, ok.sub sl, fun b hb => sl.subset hb⟩
theorem kIx_op : Op2 K (rIx K) kIx := fun S H x v f y u g z Q h1 h2 ok e hQ => by
  have okf : Ok S H f := ok.head
  unfold kIx at e
  split at e
  · rename_i l i e1 e2
    cases q : atD l i with
    | none => rw [q] at e; cases e
    | some d =>
      rw [q] at e
      obtain rfl := Option.some.inj e
      unfold VOk at h1
      split at h1
      · rename_i hb
        obtain ⟨rfl, f0, h⟩ := h1
        rw [e1] at h
        obtain ⟨a, xs, g', rfl, q1, r1, _, _⟩ := h.lst
        obtain ⟨w, g1, gg, g2, p1, p2, p3⟩ := r1.atI q
        obtain ⟨g'', w1, w2, w3⟩ := sub_ok (x := x) (f := []) (g1 := []) (g2 := []) okf (fun z => by rw [hb] at z; cases z) p3
        exact .inl ⟨a, xs, i, w, rfl, h2.int e2, q1, p1, hQ w H S g'' ⟨Same.refl _, fun _ z => z, fun _ => .inl, fun b hb => absurd (w3 b hb) (by simp)⟩ w1 w2⟩
      · rw [e1] at h1
        obtain ⟨a, xs, g', rfl, q1, r1, q2, q3⟩ := h1.lst
        obtain ⟨w, g1, gg, g2, p1, p2, p3⟩ := r1.atI q
        obtain ⟨g'', w1, w2, w3⟩ := sub_ok (x := x) (g1 := g1) (g2 := g2) okf (fun z => by
          by_cases hm : x.m = 0
          · have := q2 hm
            subst this
            rw [hm] at h1
            have := h1.own0
            subst this
            left; exact p2
          · right; rw [(q3 hm).2]; exact p2) p3
        exact .inl ⟨a, xs, i, w, rfl, h2.int e2, q1, p1, hQ w H S g'' ⟨Same.refl _, fun _ z => z, fun _ => .inl, fun b hb => .inl (List.mem_append_left _ (w3 b hb))⟩ w1 w2⟩
  · rename_i l i e1 e2
    cases q : atD l i with
    | none => rw [q] at e; cases e
    | some d =>
      rw [q] at e
      obtain rfl := Option.some.inj e
      unfold VOk at h1
      split at h1
      · rename_i hb
        obtain ⟨rfl, f0, h⟩ := h1
        rw [e1] at h
        obtain ⟨a, xs, rfl, q1, r1⟩ := h.tup
        obtain ⟨w, g1, gg, g2, p1, p2, p3⟩ := r1.atI q
        obtain ⟨g'', w1, w2, w3⟩ := sub_ok (x := x) (f := []) (g1 := []) (g2 := []) okf (fun z => by rw [hb] at z; cases z) p3
        exact .inr (.inl ⟨a, xs, i, w, rfl, h2.int e2, q1, p1, hQ w H S g'' ⟨Same.refl _, fun _ z => z, fun _ => .inl, fun b hb => absurd (w3 b hb) (by simp)⟩ w1 w2⟩)
      · rw [e1] at h1
        obtain ⟨a, xs, rfl, q1, r1⟩ := h1.tup
        obtain ⟨w, g1, gg, g2, p1, p2, p3⟩ := r1.atI q
        obtain ⟨g'', w1, w2, w3⟩ := sub_ok (x := x) (g1 := g1) (g2 := g2) okf (fun z => .inl p2) p3
        exact .inr (.inl ⟨a, xs, i, w, rfl, h2.int e2, q1, p1, hQ w H S g'' ⟨Same.refl _, fun _ z => z, fun _ => .inl, fun b hb => .inl (List.mem_append_left _ (w3 b hb))⟩ w1 w2⟩)
  · rename_i z' i e1 e2
    split at e
    · rename_i c
      cases q : (nix z'.cps.toList.length i).bind fun j => z'.cps.toList[j]? with
      | none => rw [q] at e; cases e
      | some d =>
        rw [q] at e
        obtain rfl := Option.some.inj e
        exact .inr (.inr ⟨z', i, d, h1.str e1, h2.int e2, by rw [← lim_eq]; exact c, q, ret_imm ok rfl (.str _ _) hQ⟩)
    · cases e
  · cases e
end
end Vs
set_option maxHeartbeats 4000000
/-! Vs: displays, slices, built-ins. -/
namespace Vs
open PySem PySem.Spec PyProof.Rows L2
section
variable {K : PySem.W.Frag} {S S' : Addr → Prop} {H : Hp}
theorem minM_none : ∀ {xs : List VV}, minM xs = none → ∀ x ∈ xs, x.d.imm = true
  | [], _, _, hx => by cases hx
  | z :: zs, q, x, hx => by
    unfold minM at q
    by_cases hz : z.d.imm = true
    · rw [if_pos hz] at q
      rcases List.mem_cons.mp hx with rfl | hx
      · exact hz
      · exact minM_none q x hx
    · rw [if_neg hz] at q
      cases q
theorem minM_le : ∀ {xs : List VV} {n : Nat}, minM xs = some n → ∀ x ∈ xs, x.d.imm = true ∨ n ≤ x.m
  | [], _, h, _, _ => by cases h
  | y :: ys, n, h, x, hx => by
    unfold minM at h
    by_cases hy : y.d.imm = true
    · rw [if_pos hy] at h
      rcases List.mem_cons.mp hx with rfl | hx
      · exact .inl hy
      · exact minM_le h x hx
    · rw [if_neg hy] at h
      have h := Option.some.inj h
      cases q : minM ys with
      | none =>
        rw [q] at h
        rcases List.mem_cons.mp hx with rfl | hx
        · exact .inr (Nat.le_of_eq h.symm)
        · left
          exact minM_none q x hx
      | some k =>
        rw [q] at h
        have h : min y.m k = n := h
        rcases List.mem_cons.mp hx with rfl | hx
        · exact .inr (by omega)
        · rcases minM_le q x hx with z | z
          · exact .inl z
          · exact .inr (by omega)
/-- values put together, as deep as all bear -/
theorem VsOk.all (n : Nat) : ∀ {xs : List VV} {vs : List V} {f : List Addr}, VsOk K S H xs vs f → xs.all VV.stable = true → (∀ x ∈ xs, x.d.imm = true ∨ n ≤ x.m) →
    ∃ g f1, f.Perm (g ++ f1) ∧ RpAll K (fun b => S b ∨ b ∈ f1) H n vs (xs.map VV.d) g
  | _, _, _, .nil, _, _ => ⟨[], [], .nil, .nil _⟩
  | _, _, _, .cons (x := x) (v := v) (f := f) (xs := xs) (vs := vs) (g := g) h r, hs, hn => by
    rw [List.all_cons, Bool.and_eq_true] at hs
    obtain ⟨g2, f2, p2, r2⟩ := VsOk.all n r hs.2 fun x hx => hn x (List.mem_cons_of_mem _ hx)
    have hx := h.stab hs.1
    have one : ∃ g1 f1, f.Perm (g1 ++ f1) ∧ Rp K (fun b => S b ∨ b ∈ f1) H n v x.d g1 := by
      rcases hn x (List.mem_cons_self ..) with z | z
      · obtain ⟨rfl, q⟩ := hx.imm z
        exact ⟨[], [], .nil, q _ _ _⟩
      · obtain ⟨g1, f1, p, q⟩ := hx.thin n
        rw [Nat.min_eq_right z] at q
        exact ⟨g1, f1, p, q⟩
    obtain ⟨g1, f1, p1, r1⟩ := one
    refine ⟨g1 ++ g2, f1 ++ f2, thin_perm p1 p2, .cons (r1.more fun b hb => hb.imp id (List.mem_append_left _)) (r2.more fun b hb => hb.imp id (List.mem_append_right _))⟩
theorem split_ok {f g f1 : List Addr} (ok : Ok S H f) (p : f.Perm (g ++ f1)) : Ok (fun b => S b ∨ b ∈ f1) H g := by
  have k := ok.perm p
  have k2 := k.perm List.perm_append_comm
  exact ⟨k.head.nd, k.head.mu, fun b hb z => z.elim (k.head.ns b hb) fun z => k2.apart b z hb, fun b hb => hb.elim (ok.tr b) fun z => ok.mem (p.mem_iff.mpr (List.mem_append_right _ z))⟩
theorem dmode_pos (xs : List VV) : ∃ n, dmode xs = n + 1 ∧ ∀ x ∈ xs, x.d.imm = true ∨ n ≤ x.m := by
  unfold dmode
  cases q : minM xs with
  | none => exact ⟨0, rfl, fun x _ => .inr (Nat.zero_le _)⟩
  | some n => exact ⟨n, rfl, minM_le q⟩
theorem kLst_op : OpN K (fun xs H Q => xs.length ≤ sizeLine ∧ ∀ p, H p = none → Q (.ref p) (upd H p (.lst xs))) kLst := fun S H xs vs f z Q h ok e hQ => by
  unfold kLst at e
  split at e
  · rename_i c
    obtain rfl := Option.some.inj e
    obtain ⟨n, hn, hle⟩ := dmode_pos xs
    rw [hn] at hQ
    obtain ⟨g, f1, p, r⟩ := h.all n c.1 hle
    refine ⟨?_, fun q hq => ret_lst ok (fun b => Or.inl) (fun b hb => hb.imp id fun z => p.mem_iff.mpr (List.mem_append_right _ z)) (split_ok ok p) (fun b hb => p.mem_iff.mpr (List.mem_append_left _ hb)) r hQ q hq⟩
    have := r.length
    rw [List.length_map] at this
    rw [this, ← lim_eq]
    exact c.2
  · cases e
theorem kTup_op : OpN K (fun xs H Q => xs.length ≤ sizeLine ∧ ∀ p, H p = none → Q (.ref p) (upd H p (.tup xs))) kTup := fun S H xs vs f z Q h ok e hQ => by
  unfold kTup at e
  split at e
  · rename_i c
    obtain rfl := Option.some.inj e
    obtain ⟨n, hn, hle⟩ := dmode_pos xs
    rw [hn] at hQ
    obtain ⟨g, f1, p, r⟩ := h.all n c.1 hle
    refine ⟨?_, fun q hq => ret_tup ok (fun b => Or.inl) (fun b hb => hb.imp id fun z => p.mem_iff.mpr (List.mem_append_right _ z)) (split_ok ok p) (fun b hb => p.mem_iff.mpr (List.mem_append_left _ hb)) r hQ q hq⟩
    have := r.length
    rw [List.length_map] at this
    rw [this, ← lim_eq]
    exact c.2
  · cases e

/-! ### built-ins of one value -/
theorem RpAll.of_intsOf : ∀ {m : Nat} {xs : List V} {ds : List D} {f : List Addr} {l : List Int}, RpAll K S H m xs ds f → intsOf ds = some l → xs = l.map V.int ∧ ds = Vs.dints l
  | _, _, _, _, l, .nil _, e => by
    obtain rfl := Option.some.inj e
    exact ⟨rfl, rfl⟩
  | _, _, _, _, l, .cons h r, e => by
    cases h with
    | int m i =>
      unfold intsOf at e
      rename_i ds _
      cases q : intsOf ds with
      | none => rw [q] at e; cases e
      | some k =>
        rw [q] at e
        obtain rfl := Option.some.inj e
        obtain ⟨h1, h2⟩ := RpAll.of_intsOf r q
        exact ⟨by rw [h1]; rfl, by rw [h2]; rfl⟩
    | _ => cases e
theorem RpAll.of_blsOf : ∀ {m : Nat} {xs : List V} {ds : List D} {f : List Addr} {l : List Bool}, RpAll K S H m xs ds f → blsOf ds = some l → xs = l.map V.bl
  | _, _, _, _, l, .nil _, e => by
    obtain rfl := Option.some.inj e
    rfl
  | _, _, _, _, l, .cons h r, e => by
    cases h with
    | bl m i =>
      unfold blsOf at e
      rename_i ds _
      cases q : blsOf ds with
      | none => rw [q] at e; cases e
      | some k =>
        rw [q] at e
        obtain rfl := Option.some.inj e
        rw [RpAll.of_blsOf r q]
        rfl
    | _ => cases e
theorem VOk.seqL {x : VV} {v : V} {f : List Addr} {ds : List D} (h : VOk K S H x v f) (e : x.d = .lst ds) : ∃ a xs m g, v = .ref a ∧ SqL K H a xs ∧ RpAll K S H m xs ds g := by
  obtain ⟨g, h⟩ := h.rp
  rw [e] at h
  obtain ⟨a, xs, g', h1, h2, h3, _⟩ := h.lst
  exact ⟨a, xs, _, g', h1, h2, h3⟩
theorem VOk.seqT {x : VV} {v : V} {f : List Addr} {ds : List D} (h : VOk K S H x v f) (e : x.d = .tup ds) : ∃ a xs m g, v = .ref a ∧ SqT K H a xs ∧ RpAll K S H m xs ds g := by
  obtain ⟨g, h⟩ := h.rp
  rw [e] at h
  obtain ⟨a, xs, h1, h2, h3⟩ := h.tup
  exact ⟨a, xs, _, _, h1, h2, h3⟩
/-- one argument -/
theorem opn_one {r : List V → Hp → VK → Prop} {k : List VV → Option VV} (h1 : ∀ xs z, k xs = some z → ∃ x, xs = [x])
    (h2 : ∀ S H x v f z Q, VOk K S H x v f → Ok S H f → k [x] = some z → (∀ w H' S' h, Grow S H f S' h H' → VOk K S' H' z w h → Ok S' H' h → Q w H') → r [v] H Q) : OpN K r k := fun S H xs vs f z Q h ok e hQ => by
  obtain ⟨x, rfl⟩ := h1 xs z e
  obtain ⟨v, rfl, h'⟩ := h.one
  exact h2 S H x v f z Q h' ok e hQ
theorem kLen_op : OpN K (fun xs H Q => (∃ p ys, xs = [.ref p] ∧ (SqL K H p ys ∨ SqT K H p ys) ∧ Q (.int ys.length) H) ∨ (∃ z, xs = [.str z] ∧ z.length ≤ sizeLine ∧ Q (.int z.length) H) ∨ (∃ d kvs, xs = [.ref d] ∧ Rd H d (.dK kvs) ∧ Q (.int kvs.length) H) ∨ (∃ d kvs, xs = [.ref d] ∧ H d = some (.dT kvs) ∧ Q (.int kvs.length) H)) kLen := by
  refine opn_one (fun xs z e => ?_) fun S H x v f z Q h ok e hQ => ?_
  · unfold kLen at e
    split at e
    · exact ⟨_, rfl⟩
    · cases e
  · unfold kLen at e
    simp only at e
    split at e
    · rename_i l el
      obtain rfl := Option.some.inj e
      obtain ⟨a, xs, m, g, rfl, q1, q2⟩ := h.seqL el
      refine .inl ⟨a, xs, rfl, .inl q1, ?_⟩
      rw [q2.length]
      exact ret_imm ok rfl (.int _ _) hQ
    · rename_i l el
      obtain rfl := Option.some.inj e
      obtain ⟨a, xs, m, g, rfl, q1, q2⟩ := h.seqT el
      refine .inl ⟨a, xs, rfl, .inr q1, ?_⟩
      rw [q2.length]
      exact ret_imm ok rfl (.int _ _) hQ
    · rename_i s el
      split at e
      · rename_i c
        obtain rfl := Option.some.inj e
        exact .inr (.inl ⟨s, by rw [h.str el], by rw [← lim_eq]; exact c, ret_imm ok rfl (.int _ _) hQ⟩)
      · cases e
    · rename_i l el
      obtain rfl := Option.some.inj e
      obtain ⟨g, h⟩ := h.rp
      rw [el] at h
      generalize hm : x.m = m at h
      generalize hd : D.dic _ l = d at h
      cases h with
      | dk0 q _ r =>
        obtain ⟨_, rfl⟩ := D.dic.inj hd
        have hl := r.length
        rw [List.length_map] at hl
        refine .inr (.inr (.inl ⟨_, _, rfl, q, ?_⟩))
        rw [List.length_zip, List.length_map, ← hl, Nat.min_self] at hQ
        exact ret_imm ok rfl (.int _ _) hQ
      | dk1 q r =>
        obtain ⟨_, rfl⟩ := D.dic.inj hd
        have hl := r.length
        rw [List.length_map] at hl
        refine .inr (.inr (.inl ⟨_, _, rfl, .inl q, ?_⟩))
        rw [List.length_zip, List.length_map, ← hl, Nat.min_self] at hQ
        exact ret_imm ok rfl (.int _ _) hQ
      | dt0 q _ r =>
        obtain ⟨_, rfl⟩ := D.dic.inj hd
        have hl := r.length
        rw [List.length_map] at hl
        refine .inr (.inr (.inr ⟨_, _, rfl, q, ?_⟩))
        rw [List.length_zip, List.length_map, ← hl, Nat.min_self] at hQ
        exact ret_imm ok rfl (.int _ _) hQ
      | dt1 q r =>
        obtain ⟨_, rfl⟩ := D.dic.inj hd
        have hl := r.length
        rw [List.length_map] at hl
        refine .inr (.inr (.inr ⟨_, _, rfl, q, ?_⟩))
        rw [List.length_zip, List.length_map, ← hl, Nat.min_self] at hQ
        exact ret_imm ok rfl (.int _ _) hQ
      | _ => cases hd
    · cases e
theorem kAbs_op : OpN K (fun xs H Q => ∃ i, xs = [.int i] ∧ Q (.int (if i < 0 then -i else i)) H) kAbs := by
  refine opn_one (fun xs z e => ?_) fun S H x v f z Q h ok e hQ => ?_
  · unfold kAbs at e
    split at e
    · exact ⟨_, rfl⟩
    · cases e
  · unfold kAbs at e
    simp only at e
    split at e
    · rename_i i el
      obtain rfl := Option.some.inj e
      exact ⟨i, by rw [h.int el], ret_imm ok rfl (.int _ _) hQ⟩
    · cases e
theorem kInt_op : OpN K (fun xs H Q => (∃ i, xs = [.int i] ∧ Q (.int i) H) ∨ ∃ k : Bool, xs = [.bl k] ∧ Q (.int (if k then 1 else 0)) H) kInt := by
  refine opn_one (fun xs z e => ?_) fun S H x v f z Q h ok e hQ => ?_
  · unfold kInt at e
    split at e
    · exact ⟨_, rfl⟩
    · cases e
  · unfold kInt at e
    simp only at e
    split at e
    · rename_i i el
      obtain rfl := Option.some.inj e
      exact .inl ⟨i, by rw [h.int el], ret_imm ok rfl (.int _ _) hQ⟩
    · rename_i i el
      obtain rfl := Option.some.inj e
      exact .inr ⟨i, by rw [h.bl el], ret_imm ok rfl (.int _ _) hQ⟩
    · cases e
theorem kAll_op : OpN K (rAll K) kAll := by
  refine opn_one (fun xs z e => ?_) fun S H x v f z Q h ok e hQ => ?_
  · unfold kAll at e
    split at e
    · exact ⟨_, rfl⟩
    · cases e
  · unfold kAll at e
    simp only at e
    split at e
    · rename_i l el
      cases q : blsOf l with
      | none => rw [q] at e; cases e
      | some bs =>
        rw [q] at e
        obtain rfl := Option.some.inj e
        obtain ⟨a, xs, m, g, rfl, q1, q2⟩ := h.seqL el
        exact ⟨a, bs, rfl, by rw [← q2.of_blsOf q]; exact q1, ret_imm ok rfl (.bl _ _) hQ⟩
    · cases e
theorem kAny_op : OpN K (rAny K) kAny := by
  refine opn_one (fun xs z e => ?_) fun S H x v f z Q h ok e hQ => ?_
  · unfold kAny at e
    split at e
    · exact ⟨_, rfl⟩
    · cases e
  · unfold kAny at e
    simp only at e
    split at e
    · rename_i l el
      cases q : blsOf l with
      | none => rw [q] at e; cases e
      | some bs =>
        rw [q] at e
        obtain rfl := Option.some.inj e
        obtain ⟨a, xs, m, g, rfl, q1, q2⟩ := h.seqL el
        exact ⟨a, bs, rfl, by rw [← q2.of_blsOf q]; exact q1, ret_imm ok rfl (.bl _ _) hQ⟩
    · cases e
theorem kSum_op : OpN K (rSum K) kSum := by
  refine opn_one (fun xs z e => ?_) fun S H x v f z Q h ok e hQ => ?_
  · unfold kSum at e
    split at e
    · exact ⟨_, rfl⟩
    · cases e
  · unfold kSum at e
    simp only at e
    split at e
    · rename_i l el
      cases q : intsOf l with
      | none => rw [q] at e; cases e
      | some bs =>
        rw [q] at e
        obtain rfl := Option.some.inj e
        obtain ⟨a, xs, m, g, rfl, q1, q2⟩ := h.seqL el
        exact ⟨a, bs, rfl, by have z := (RpAll.of_intsOf q2 q).1; rw [← z]; exact q1, ret_imm ok rfl (.int _ _) hQ⟩
    · cases e
theorem sortI_eq {l l' : List Int} (p : l'.Perm l) (s : l'.Pairwise (· ≤ ·)) : l' = sortI l := by
  unfold sortI
  have p2 : (l.mergeSort fun a b => decide (a ≤ b)).Perm l := List.mergeSort_perm l _
  have s2 : (l.mergeSort fun a b => decide (a ≤ b)).Pairwise fun a b => decide (a ≤ b) = true := List.pairwise_mergeSort (le := fun a b => decide (a ≤ b)) (fun a b c h1 h2 => by simp at *; omega) (fun a b => by simp; omega) l
  refine List.Perm.eq_of_pairwise (le := (· ≤ ·)) (fun a b _ _ h1 h2 => by omega) s (s2.imp fun h => by simpa using h) (p.trans p2.symm)
theorem kSorted_op : OpN K (rSorted K) kSorted := by
  refine opn_one (fun xs z e => ?_) fun S H x v f z Q h ok e hQ => ?_
  · unfold kSorted at e
    split at e
    · exact ⟨_, rfl⟩
    · cases e
  · unfold kSorted at e
    simp only at e
    split at e
    · rename_i l el
      cases q : intsOf l with
      | none => rw [q] at e; cases e
      | some bs =>
        rw [q] at e
        replace e : (if bs.length < 64 then some (⟨false, 1, .lst (dints (sortI bs))⟩ : VV) else none) = some z := e
        split at e
        · rename_i c
          obtain rfl := Option.some.inj e
          obtain ⟨a, xs, m, g, rfl, q1, q2⟩ := h.seqL el
          refine ⟨a, bs, rfl, by have z := (RpAll.of_intsOf q2 q).1; rw [← z]; exact q1, c, fun ns p hp hs hn => ?_⟩
          rw [← sortI_eq hp hs] at hQ
          exact ret_lst (S' := S) (g := []) ok (fun _ z => z) (fun _ => .inl) ok.nil (by simp) (RpAll.dints 0 ns) hQ p hn
        · cases e
    · cases e
theorem kList_op : OpN K (fun xs H Q => ∃ p ys, xs = [.ref p] ∧ (SqL K H p ys ∨ SqT K H p ys) ∧ ∀ l, H l = none → Q (.ref l) (upd H l (.lst ys))) kList := by
  refine opn_one (fun xs z e => ?_) fun S H x v f z Q h ok e hQ => ?_
  · unfold kList at e
    split at e
    · exact ⟨_, rfl⟩
    · cases e
  · unfold kList at e
    simp only at e
    obtain ⟨b, m, d⟩ := x
    have ok' : Ok S H (f ++ []) := by rw [List.append_nil]; exact ok
    split at e
    · rename_i l el
      obtain rfl : d = .lst l := el
      split at e
      · rename_i c
        obtain rfl := Option.some.inj e
        obtain ⟨a, xs, S1, rfl, q1, u1, u2, r1, k1⟩ := opn h ok' c
        exact ⟨a, xs, rfl, .inl q1, fun p hp => ret_lst ok u1 u2 k1 (by simp) r1 hQ p hp⟩
      · cases e
    · rename_i l el
      obtain rfl : d = .tup l := el
      split at e
      · rename_i c
        obtain rfl := Option.some.inj e
        obtain ⟨a, xs, S1, rfl, q1, u1, u2, r1, k1⟩ := opnT h ok' c
        exact ⟨a, xs, rfl, .inr q1, fun p hp => ret_lst ok u1 u2 k1 (by simp) r1 hQ p hp⟩
      · cases e
    · cases e
theorem kTuple_op : OpN K (fun xs H Q => ∃ p ys, xs = [.ref p] ∧ ((SqL K H p ys ∧ ∀ l, H l = none → Q (.ref l) (upd H l (.tup ys))) ∨ (SqT K H p ys ∧ Q (.ref p) H))) kTuple := by
  refine opn_one (fun xs z e => ?_) fun S H x v f z Q h ok e hQ => ?_
  · unfold kTuple at e
    split at e
    · exact ⟨_, rfl⟩
    · cases e
  · unfold kTuple at e
    simp only at e
    obtain ⟨b, m, d⟩ := x
    have ok' : Ok S H (f ++ []) := by rw [List.append_nil]; exact ok
    split at e
    · rename_i l el
      obtain rfl : d = .lst l := el
      split at e
      · rename_i c
        obtain rfl := Option.some.inj e
        obtain ⟨a, xs, S1, rfl, q1, u1, u2, r1, k1⟩ := opn h ok' c
        exact ⟨a, xs, rfl, .inl ⟨q1, fun p hp => ret_tup ok u1 u2 k1 (by simp) r1 hQ p hp⟩⟩
      · cases e
    · cases e
theorem kMax_op : OpN K (fun xs H Q => ∃ i j, xs = [.int i, .int j] ∧ Q (.int (if j > i then j else i)) H) kMax := fun S H xs vs f z Q h ok e hQ => by
  unfold kMax at e
  split at e
  · obtain ⟨v, w, f1, f2, rfl, rfl, h1, h2⟩ := h.two
    split at e
    · rename_i i j e1 e2
      obtain rfl := Option.some.inj e
      exact ⟨i, j, by rw [h1.int e1, h2.int e2], ret_imm ok rfl (.int _ _) hQ⟩
    · cases e
  · cases e
theorem kMin_op : OpN K (fun xs H Q => ∃ i j, xs = [.int i, .int j] ∧ Q (.int (if j < i then j else i)) H) kMin := fun S H xs vs f z Q h ok e hQ => by
  unfold kMin at e
  split at e
  · obtain ⟨v, w, f1, f2, rfl, rfl, h1, h2⟩ := h.two
    split at e
    · rename_i i j e1 e2
      obtain rfl := Option.some.inj e
      exact ⟨i, j, by rw [h1.int e1, h2.int e2], ret_imm ok rfl (.int _ _) hQ⟩
    · cases e
  · cases e
end
end Vs
set_option maxHeartbeats 4000000
/-! Vs: comprehensions. -/
namespace Vs
open PySem PySem.Spec PyProof.Rows L2

theorem compL_len {own : List Nat} {g : MG} {cs : MT} {e : M} : ∀ {ds : List D} {ρ : Vs.Env} {acc xs : List VV} {o : Option Vs.Env}, compL own g cs e ds ρ acc = .ok xs o → acc.length ≤ xs.length
  | [], ρ, acc, xs, o, h => by
    unfold compL at h
    injection h with h1 _
    rw [h1]
    exact Nat.le_refl _
  | d :: ds, ρ, acc, xs, o, h => by
    unfold compL at h
    cases q1 : g ⟨false, 0, d⟩ ρ with
    | nx ρ1 =>
      rw [q1] at h
      simp only at h
      cases q2 : cs ρ1 with
      | ok b o1 =>
        rw [q2] at h
        cases b with
        | false =>
          simp only at h
          cases q3 : compL own g cs e ds (now (o1.map (wipeE own)) ρ) acc with
          | ok ys o2 =>
            rw [q3] at h
            injection h with h1 _
            rw [← h1]
            exact compL_len q3
          | ex _ _ => rw [q3] at h; cases h
          | no => rw [q3] at h; cases h
        | true =>
          simp only at h
          cases q4 : e (now o1 ρ1) with
          | ok x o2 =>
            rw [q4] at h
            simp only at h
            split at h
            · cases q3 : compL own g cs e ds (now ((thn o1 o2).map (wipeE own)) ρ) (acc ++ [x]) with
              | ok ys o3 =>
                rw [q3] at h
                injection h with h1 _
                rw [← h1]
                have := compL_len q3
                rw [List.length_append] at this
                exact Nat.le_trans (Nat.le_add_right _ _) this
              | ex _ _ => rw [q3] at h; cases h
              | no => rw [q3] at h; cases h
            · cases h
          | ex _ _ => rw [q4] at h; cases h
          | no => rw [q4] at h; cases h
      | ex _ _ => rw [q2] at h; cases h
      | no => rw [q2] at h; cases h
    | _ => rw [q1] at h; cases h

section
variable {K : PySem.W.Frag} {S S' : Addr → Prop} {H H' : Hp}
theorem EnvRp.wipe {σ : L2.St} {ρ : Vs.Env} {F : List Addr} (own : List Nat) (h : EnvRp K S H σ ρ F) : ∃ f G, F.Perm (f ++ G) ∧ EnvRp K S H σ (wipeE own ρ) G := by
  induction own generalizing ρ F with
  | nil => exact ⟨[], F, .refl _, h⟩
  | cons j own ih =>
    obtain ⟨f, G, p, h1⟩ := h.drop j
    obtain ⟨f2, G2, p2, h2⟩ := ih h1
    refine ⟨f ++ f2, G2, p.trans ?_, h2⟩
    rw [List.append_assoc]
    exact List.Perm.append_left _ p2
theorem look_put_ne : ∀ (ρ : Vs.Env) {i j : Nat} (x : Option PV), i ≠ j → look (Vs.put ρ i x) j = look ρ j
  | [], _, _, _, _ => rfl
  | _ :: _, 0, 0, _, h => absurd rfl h
  | _ :: _, 0, _ + 1, _, _ => rfl
  | _ :: _, _ + 1, 0, _, _ => rfl
  | _ :: r, i + 1, j + 1, x, h => look_put_ne r x fun e => h (congrArg (· + 1) e)
theorem look_put_none : ∀ (ρ : Vs.Env) (i : Nat), look (Vs.put ρ i none) i = none
  | [], _ => rfl
  | _ :: _, 0 => rfl
  | _ :: r, i + 1 => look_put_none r i
theorem look_wipe {own : List Nat} {ρ : Vs.Env} {i : Nat} (h : look ρ i = none ∨ i ∈ own) : look (wipeE own ρ) i = none := by
  induction own generalizing ρ with
  | nil => exact h.resolve_right (by simp)
  | cons j own ih =>
    refine ih (ρ := Vs.put ρ j none) ?_
    by_cases e : j = i
    · subst e; exact .inl (look_put_none _ _)
    · rw [look_put_ne _ _ e]
      exact h.imp id fun z => (List.mem_cons.mp z).resolve_left (Ne.symm e)
/-- what dead slots hold is of no matter -/
theorem EnvRp.other : ∀ {σ σ' : List (Option V)} {ρ : Vs.Env} {F : List Addr}, EnvRp K S H σ ρ F → σ'.length = σ.length → (∀ i : Nat, look ρ i ≠ none → σ'[i]? = σ[i]?) → EnvRp K S H σ' ρ F
  | _, σ', _, _, .nil, hl, _ => by
    obtain rfl : σ' = [] := List.length_eq_zero_iff.mp hl
    exact .nil
  | _, [], _, _, .dead _, hl, _ => by cases hl
  | _, x :: σ', _, _, .dead h, hl, hs => .dead (EnvRp.other h (by simpa using hl) fun i hi => by simpa using hs (i + 1) hi)
  | _, [], _, _, .live _ _ _, hl, _ => by cases hl
  | _, x :: σ', _, _, .live (v := v) r h p, hl, hs => by
    have e : x = some v := by simpa using hs 0 (by simp)
    subst e
    exact .live r (EnvRp.other h (by simpa using hl) fun i hi => by simpa using hs (i + 1) hi) p
theorem wipe_get {σ : L2.St} {own : List Nat} {i : Nat} (h : i ∉ own) : (L2.wipe σ own)[i]? = (σ[i]? : Option (Option V)) := by
  induction own with
  | nil => rfl
  | cons j own ih =>
    show ((L2.wipe σ own).set j none)[i]? = _
    rw [List.getElem?_set_ne (fun e => h (by rw [e]; exact List.mem_cons_self ..))]
    exact ih fun z => h (List.mem_cons_of_mem _ z)
theorem VsOk.snoc {x : VV} {v : V} {f : List Addr} : ∀ {xs : List VV} {vs : List V} {g : List Addr}, VsOk K S H xs vs g → VOk K S H x v f → VsOk K S H (xs ++ [x]) (vs ++ [v]) (g ++ f)
  | _, _, _, .nil, h => by
    have := VsOk.cons h .nil
    rwa [List.append_nil] at this
  | _, _, _, .cons a b, h => by
    have := VsOk.cons a (b.snoc h)
    rwa [← List.append_assoc] at this
theorem VsOk.more (s : ∀ b, S b → S' b) {xs : List VV} {vs : List V} {f : List Addr} (h : VsOk K S H xs vs f) : VsOk K S' H xs vs f := by
  induction h with
  | nil => exact .nil
  | cons a _ ih => exact .cons (a.more s) ih
theorem VsOk.len {xs : List VV} {vs : List V} {f : List Addr} (h : VsOk K S H xs vs f) : xs.length = vs.length := by
  induction h with
  | nil => rfl
  | cons _ _ ih => exact congrArg (· + 1) ih
end
/-- the slots but the block's own -/
def others (n : Nat) (own : List Nat) : List Bool := (List.range n).map fun i => !own.contains i
theorem others_get {n : Nat} {own : List Nat} {i : Nat} (hi : i < n) (h : i ∉ own) : (others n own)[i]? = some true := by
  unfold others
  rw [List.getElem?_map, List.getElem?_range hi]
  simp [h]
theorem Fit.map {o : Option Vs.Env} {S S1 : Addr → Prop} {F F1 f : List Addr} {H H1 : Hp} (φ : Vs.Env → Vs.Env) (t : Fit o S F H S1 F1 f H1) : Fit (o.map φ) S F H S1 F1 f H1 := by cases o <;> exact t

/-- a target of names: the heap stays as it is -/
structure SN (ct : Str → Addr) (lent : List Bool) (X : Cx) (tg : Expr) (g : MG) : Prop where
  run : ∃ t, PG X tg t ∧ ∀ S F H σ ρ x v f ρ' Q, VOk X.K S H x v f → EnvRp X.K S H σ ρ F → Ok S H (f ++ F) → g x ρ = .nx ρ' →
    (∀ σ' F', (∀ b ∈ F', b ∈ f ++ F) → EnvRp X.K S H σ' ρ' F' → Ok S H F' → Kp lent σ σ' → Q σ' H) → t v σ H Q
structure SNs (ct : Str → Addr) (lent : List Bool) (X : Cx) (tg : List Expr) (gs : List MG) : Prop where
  run : ∃ t, PGs X tg t ∧ ∀ S F H σ ρ xs vs f ρ' Q, VsOk X.K S H xs vs f → EnvRp X.K S H σ ρ F → Ok S H (f ++ F) → gall gs xs ρ = .nx ρ' →
    (∀ σ' F', (∀ b ∈ F', b ∈ f ++ F) → EnvRp X.K S H σ' ρ' F' → Ok S H F' → Kp lent σ σ' → Q σ' H) → t vs σ H Q
section
variable {ct : Str → Addr} {lent : List Bool} {X : Cx} {pos : Pos}
theorem sn_name {i : Nat} {x : Str} (hN : X.N.Nodup) (hi : X.N[i]? = some x) (hx : Loc X.env.scope x) (hl : lent[i]? ≠ some true) (hf : X.fn x = true ∨ X.env.scope.names.lookup x = some .local := by first | exact .inl rfl | exact .inr rfl | assumption) :
    SN ct lent X (.Name x pos) (gname i) := by
  refine ⟨_, pg_name hN hi hx hf, fun S F H σ ρ x v f ρ' Q h E ok e q => ?_⟩
  show Q (σ.set i (some v)) H
  unfold gname at e
  cases ek : x.kept with
  | none => rw [ek] at e; cases e
  | some pv =>
    rw [ek] at e
    obtain ⟨hs, rfl⟩ := kept_some ek
    have e : Fl.nx (Vs.put ρ i (some (x.m, x.d))) = .nx ρ' := e
    injection e with e
    subst e
    obtain ⟨f0, G0, p, E0⟩ := E.drop i
    have p2 : (f ++ F).Perm (f0 ++ (f ++ G0)) := (List.Perm.append_left _ p).trans perm_mid
    have ok2 : Ok S H (f ++ G0) := (ok.perm p2).tail
    by_cases hl2 : i < σ.length
    · exact q _ (f ++ G0) (fun b hb => p2.mem_iff.mpr (List.mem_append_right _ hb)) (E0.fill hl2 (h.stab hs)) ok2 (Kp.set hl)
    · rw [List.set_eq_of_length_le (by omega)]
      rw [put_over _ _ _ (by rw [← E.len]; omega)] at q
      exact q σ F (fun b hb => List.mem_append_right _ hb) E ok.tail Kp.refl
theorem sns_nil : SNs ct lent X [] [] := by
  refine ⟨_, pgs_nil, fun S F H σ ρ xs vs f ρ' Q h E ok e q => ?_⟩
  cases h with
  | nil =>
    have e : Fl.nx ρ = .nx ρ' := e
    injection e with e
    subst e
    exact ⟨rfl, q σ F (fun b hb => hb) E ok Kp.refl⟩
  | cons _ _ => cases e
theorem sns_cons {t : Expr} {ts : List Expr} {g : MG} {gs : List MG} (h1 : SN ct lent X t g) (h2 : SNs ct lent X ts gs)
    (mk : ∀ {a b}, PG X t a → PGs X ts b → PGs X (t :: ts) (gCons a b)) : SNs ct lent X (t :: ts) (g :: gs) := by
  obtain ⟨t1, p1, r1⟩ := h1.run
  obtain ⟨t2, p2, r2⟩ := h2.run
  refine ⟨_, mk p1 p2, fun S F H σ ρ xs vs f ρ' Q h E ok e q => ?_⟩
  cases h with
  | nil => cases e
  | cons a b =>
    rename_i x v f xs vs g'
    refine ⟨v, vs, rfl, ?_⟩
    unfold gall at e
    cases q1 : g x ρ with
    | nx ρ1 =>
      rw [q1] at e
      have ok1 : Ok S H (g' ++ (f ++ F)) := ok.perm (by rw [List.append_assoc]; exact perm_mid)
      refine r1 S F H σ ρ x v f ρ1 _ a E ok1.tail q1 fun σ1 F1 s1 E1 k1 kp1 => ?_
      refine r2 S F1 H σ1 ρ1 xs vs g' ρ' Q b E1 (ok1.head.two k1 fun b hb z => ok1.apart b hb (s1 b z)) e fun σ2 F2 s2 E2 k2 kp2 => q σ2 F2 (fun b hb => ?_) E2 k2 (kp1.trans kp2)
      rcases List.mem_append.mp (s2 b hb) with z | z
      · exact List.mem_append_left _ (List.mem_append_right _ z)
      · rcases List.mem_append.mp (s1 b z) with z | z
        · exact List.mem_append_left _ (List.mem_append_left _ z)
        · exact List.mem_append_right _ z
    | _ => rw [q1] at e; cases e
theorem sn_tup {es : List Expr} {kk : Nat} {gs : List MG} {n : Nat} (h : SNs ct lent X es gs) (mk : ∀ {t}, PGs X es t → PG X (.Tuple es kk pos) (gTup X.K n t)) (hn : gs.length = n) : SN ct lent X (.Tuple es kk pos) (gtup gs) := by
  obtain ⟨t, p, r⟩ := h.run
  refine ⟨_, mk p, fun S F H σ ρ x v f ρ' Q h E ok e q => ?_⟩
  unfold gtup at e
  obtain ⟨b, m, d⟩ := x
  cases d with
  | tup ds =>
    cases b with
    | true => cases e
    | false =>
      replace e : (if false = false ∧ ds.length = gs.length then gall gs (ds.map fun d => ⟨false, m - 1, d⟩) ρ else .no) = .nx ρ' := e
      by_cases hl : ds.length = gs.length
      · rw [if_pos ⟨rfl, hl⟩] at e
        rw [VOk.own] at h
        obtain ⟨a, xs, rfl, h1, h2⟩ := h.tup
        exact ⟨a, xs, rfl, h1, h2.length.trans (hl.trans hn), r S F H σ ρ _ xs f ρ' Q (VsOk.of_all h2) E ok e q⟩
      · rw [if_neg fun z => hl z.2] at e
        cases e
  | _ => cases e
end
/-- a clause's tests -/
structure STs (ct : Str → Addr) (X : Cx) (ifs : List Expr) (g : MT) : Prop where
  run : ∀ W, Takes X W → ∃ t, PTs X ifs t ∧ ∀ S F H σ ρ Q, EnvRp X.K S H σ ρ F → Ok S H F → Good X.K ct BOk W S F H σ ρ (g ρ) Q → t σ H Q
section
variable {ct : Str → Addr} {X : Cx}
theorem sts_nil : STs ct X [] yes := ⟨fun W tk => ⟨_, pts_nil, fun S F H σ ρ Q E ok G => G true S F H [] Fit.nil ⟨rfl, rfl⟩ E ok⟩⟩
theorem sts_one {c : Expr} {g : MT} (h : ST ct X c g) : STs ct X [c] g := ⟨fun W tk => let ⟨_, p, r⟩ := h.run W tk; ⟨_, pts_one p, r⟩⟩
end
theorem others_own {n : Nat} {own : List Nat} {i : Nat} (h : i ∈ own) : (others n own)[i]? ≠ some true := by
  unfold others
  rw [List.getElem?_map]
  by_cases hi : i < n
  · rw [List.getElem?_range hi]
    simp [h]
  · rw [List.getElem?_eq_none (by rw [List.length_range]; omega)]
    simp
theorem compF_some {r : R (List VV)} {o : Option Vs.Env} (h : compF (r.aft o) ≠ .no) : ∃ xs o', r = .ok xs o' ∧ xs.length ≤ lim := by
  cases r with
  | ok xs o' =>
    refine ⟨xs, o', rfl, ?_⟩
    have h : (R.ofO (kLst xs)).aft (thn o o') ≠ .no := h
    unfold kLst at h
    split at h
    · rename_i c
      exact c.2
    · exact absurd rfl h
  | ex _ _ => exact absurd rfl h
  | no => exact absurd rfl h
theorem Fit.over {o : Option Vs.Env} {S S2 : Addr → Prop} {F F2 h : List Addr} {H H2 : Hp} {D : Addr} {u : HO} (t : Fit o S F H S2 F2 h H2) (n : H D = none) : Fit o S F H S2 F2 h (upd H2 D u) := by
  have k : ∀ b o, H b = some o → b ≠ D := fun b o e z => by rw [z, n] at e; cases e
  cases o with
  | none =>
    obtain ⟨e, u1, u2, f, m⟩ := t
    exact ⟨fun b o q => by rw [upd_ne (k b o q)]; exact e b o q, u1, u2, f, m⟩
  | some _ =>
    have t : Step S F H S2 (h ++ F2) H2 := t
    exact ⟨fun b o q hb => by rw [upd_ne (k b o q)]; exact t.keep b o q hb, t.sub, t.newF, t.newS⟩
theorem Ok.dead {S : Addr → Prop} {F : List Addr} {H : Hp} (ok : Ok S H F) : ∀ b, H b = none → b ∉ F ∧ ¬ S b := fun b e => ⟨fun z => ok.mem z e, fun z => ok.tr b z e⟩
section
variable {ct : Str → Addr} {X : Cx} {elt tg iter : Expr} {ifs : List Expr} {scope : Scope} {own : List (Str × Nat)} {pos : Pos} {gi : MI} {gg : MG} {gt : MT} {ge : M}
abbrev BI := Shared × Hp × Addr × List (Str × Addr) × List Addr
abbrev blkX (X : Cx) (scope : Scope) (i : BI) : Cx := X.blk i.1 i.2.1 scope (compEnvC scope i.2.2.2.1 i.2.2.1 X.env) i.2.2.2.2
/-- between two turns -/
structure Turn' (K : PySem.W.Frag) (own : List Nat) (σ : L2.St) (ρw : Vs.Env) (S1 : Addr → Prop) (F1 : List Addr) (H1 : Hp) (Dd : Addr) (o : Option Vs.Env) (acc : List VV) (ws : List V) (fa : List Addr) (S' : Addr → Prop) (F' : List Addr) (H' : Hp) : Prop where
  fit : Fit o S1 F1 H1 S' F' (Dd :: fa) H'
  env : EnvRp K S' H' (L2.wipe σ own) (now o ρw) F'
  ok : Ok S' H' ((Dd :: fa) ++ F')
  vs : VsOk K S' H' acc ws fa
  st : ∀ x ∈ acc, x.stable = true
  at_ : H' Dd = some (.lst ws)
  dead : ∀ j ∈ own, look (now o ρw) j = none
/-- what an expression within has done, for the next turn -/
theorem Turn'.next {K : PySem.W.Frag} {own : List Nat} {σ σ2 : L2.St} {ρw ρ1 : Vs.Env} {S1 S' S3 : Addr → Prop} {F1 F' F2 F3 fa f : List Addr} {H1 H' H3 H4 : Hp} {Dd : Addr} {o o1 : Option Vs.Env} {acc : List VV} {ws : List V}
    (T : Turn' K own σ ρw S1 F1 H1 Dd o acc ws fa S' F' H') (sm : Same H' H3) (sub : ∀ b ∈ F2, b ∈ F') (t : Fit o1 S' F2 H3 S3 F3 f H4) (E3 : EnvRp K S3 H4 σ2 (now o1 ρ1) F3) (k3 : Ok S3 H4 (f ++ F3))
    (hl : σ2.length = (L2.wipe σ own).length) (hk : ∀ i : Nat, i ∉ own → σ2[i]? = (L2.wipe σ own)[i]?) :
    ∃ F4, Turn' K own σ ρw S1 F1 H1 Dd (thn o (o1.map (wipeE own))) acc ws fa S3 F4 H4 ∧ Fit (o1.map (wipeE own)) S' F' H' S3 F4 f H4 ∧ (f ≠ [] → True) ∧ Ok S3 H4 (f ++ ((Dd :: fa) ++ F4)) := by
  have kF' : Ok S' H' F' := T.ok.tail
  have apart : ∀ b ∈ Dd :: fa, b ∉ F' := T.ok.apart
  -- the slots behind
  have slots : ∃ F4, Fit (o1.map (wipeE own)) S' F' H' S3 F4 f H4 ∧ EnvRp K S3 H4 (L2.wipe σ own) (now (o1.map (wipeE own)) (now o ρw)) F4 ∧ Ok S3 H4 (f ++ F4) ∧ ∀ j ∈ own, look (now (o1.map (wipeE own)) (now o ρw)) j = none := by
    cases o1 with
    | none =>
      obtain ⟨e, u1, u2, rfl, n⟩ := t
      have e' := sm.trans e
      have ft : Fit (none : Option Vs.Env) S' F' H' S3 F' f H4 := ⟨e', u1, fun b hb => (u2 b hb).imp id sm.free, rfl, fun b hb => sm.free (n b hb)⟩
      refine ⟨F', ft, (T.env.same e').more u1, ?_, T.dead⟩
      have := Ok.join (G := []) (F := F') (F' := f ++ F') ft.step kF' (by
        refine k3.head.two ⟨kF'.nd, fun b hb => (kF'.same e').mu b hb, fun b hb z => ?_, k3.tr⟩ fun b hb z => ?_
        · rcases u2 b z with q | q
          · exact kF'.ns b hb q
          · exact kF'.mem hb (sm.free q)
        · exact kF'.mem z (sm.free (n b hb)))
      exact this
    | some ρ4 =>
      have t : Step S' F2 H3 S3 (f ++ F3) H4 := t
      obtain ⟨f0, G, p, E4⟩ := EnvRp.wipe own (show EnvRp K S3 H4 σ2 ρ4 F3 from E3)
      have p2 : (f ++ F3).Perm (f0 ++ (f ++ G)) := (List.Perm.append_left _ p).trans perm_mid
      refine ⟨G, ?_, E4.other hl.symm fun i hi => ?_, (k3.perm p2).tail, fun j hj => look_wipe (.inr hj)⟩
      · refine Step.trans (Step.of_same sm fun b => .inl : Step S' F' H' S' F' H3) ((t.wide sub fun b hb => .inl hb).less fun b hb => p2.mem_iff.mpr (List.mem_append_right _ hb))
      · refine (hk i fun z => hi (look_wipe (.inr z))).symm
  obtain ⟨F4, t4, E4, k4, d4⟩ := slots
  have st4 : Step S' F' H' S3 (f ++ F4) H4 := t4.step
  have st5 : Step S' F' H' S3 F4 H4 := st4.less fun b hb => List.mem_append_right _ hb
  have all : Ok S3 H4 ((Dd :: fa) ++ (f ++ F4)) := Ok.join st4 T.ok k4
  have all2 : Ok S3 H4 (f ++ ((Dd :: fa) ++ F4)) := all.perm perm_mid
  refine ⟨F4, ⟨?_, by rw [now_thn]; exact E4, all2.tail, ?_, T.st, ?_, by rw [now_thn]; exact d4⟩, t4, fun _ => trivial, all2⟩
  · exact T.fit.thn T.ok t4 (fun b hb => .inl hb) (Same.refl _)
  · exact T.vs.step st5 kF' (fun b hb => apart b (List.mem_cons_of_mem _ hb)) T.st
  · exact st5.keep _ _ T.at_ (apart _ (List.mem_cons_self ..))
/-- one more item -/
theorem Turn'.push {K : PySem.W.Frag} {own : List Nat} {σ : L2.St} {ρw : Vs.Env} {S1 S' : Addr → Prop} {F1 F' fa f : List Addr} {H1 H' : Hp} {Dd : Addr} {o : Option Vs.Env} {acc : List VV} {ws : List V} {x : VV} {y : V}
    (T : Turn' K own σ ρw S1 F1 H1 Dd o acc ws fa S' F' H') (nD : H1 Dd = none) (hx : VOk K S' H' x y f) (hs : x.stable = true) (k : Ok S' H' (f ++ ((Dd :: fa) ++ F'))) (ff : ∀ b ∈ f, b ∈ F1 ∨ H1 b = none) (fn : o = none → ∀ b ∈ f, H1 b = none) :
    Turn' K own σ ρw S1 F1 H1 Dd o (acc ++ [x]) (ws ++ [y]) (fa ++ f) S' F' (upd H' Dd (.lst (ws ++ [y]))) := by
  have k1 : Ok S' H' ((fa ++ f) ++ (F' ++ [Dd])) := k.perm (by
    have a1 : (f ++ (Dd :: fa ++ F')).Perm ((Dd :: fa ++ F') ++ f) := List.perm_append_comm
    refine a1.trans ?_
    show (Dd :: (fa ++ F' ++ f)).Perm _
    refine List.Perm.trans ?_ (List.perm_append_comm (l₁ := [Dd]) (l₂ := (fa ++ f) ++ F') |>.trans (by rw [List.append_assoc]))
    refine List.Perm.cons _ ?_
    rw [List.append_assoc, List.append_assoc]
    exact List.Perm.append_left _ List.perm_append_comm)
  have k2 : Ok S' H' (((fa ++ f) ++ F') ++ [Dd]) := by rw [List.append_assoc]; exact k1
  have kD : Ok S' H' [Dd] := k2.tail
  have kD' : Ok S' (upd H' Dd (.lst (ws ++ [y]))) [Dd] := ⟨kD.nd, fun b hb => by
    obtain rfl := List.mem_singleton.mp hb
    rw [upd_same]
    trivial, kD.ns, fun b hb e => by
    have hb' : b ≠ Dd := fun z => kD.ns Dd (List.mem_singleton.mpr rfl) (z ▸ hb)
    rw [upd_ne hb'] at e
    exact kD.tr b hb e⟩
  have st : Step S' [Dd] H' S' [Dd] (upd H' Dd (.lst (ws ++ [y]))) := ⟨fun b o e hb => by rw [upd_ne fun z => hb (by rw [z]; exact List.mem_singleton.mpr rfl)]; exact e, fun _ z => z, fun _ => .inl, fun _ => .inl⟩
  have all : Ok S' (upd H' Dd (.lst (ws ++ [y]))) (((fa ++ f) ++ F') ++ [Dd]) := Ok.join st k2 kD'
  have nf : ∀ b ∈ (fa ++ f) ++ F', b ∉ [Dd] := k2.apart
  refine ⟨?_, T.env.step st kD fun b hb => nf b (List.mem_append_right _ hb), all.perm ?_, ?_, fun z hz => ?_, upd_same, T.dead⟩
  · refine Fit.over ?_ nD
    cases o with
    | none =>
      obtain ⟨e, u1, u2, e2, n⟩ := T.fit
      refine ⟨e, u1, u2, e2, fun b hb => ?_⟩
      rcases List.mem_cons.mp hb with z | z
      · exact n b (by rw [z]; exact List.mem_cons_self ..)
      · rcases List.mem_append.mp z with z | z
        · exact n b (List.mem_cons_of_mem _ z)
        · exact fn rfl b z
    | some ρ =>
      have t : Step S1 F1 H1 S' ((Dd :: fa) ++ F') H' := T.fit
      refine ⟨t.keep, t.sub, fun b hb => ?_, t.newS⟩
      rcases List.mem_append.mp hb with z | z
      · rcases List.mem_cons.mp z with z | z
        · exact t.newF b (by rw [z]; exact List.mem_append_left _ (List.mem_cons_self ..))
        · rcases List.mem_append.mp z with z | z
          · exact t.newF b (List.mem_append_left _ (List.mem_cons_of_mem _ z))
          · exact ff b z
      · exact t.newF b (List.mem_append_right _ z)
  · rw [List.append_assoc]
    refine (List.perm_append_comm (l₁ := fa ++ f) (l₂ := F' ++ [Dd])).trans ?_
    rw [List.append_assoc]
    refine List.perm_append_comm.trans ?_
    show ((Dd :: (fa ++ f)) ++ F').Perm _
    exact .refl _
  · refine VsOk.snoc (T.vs.step st kD (fun b hb => nf b (List.mem_append_left _ (List.mem_append_left _ hb))) T.st) (hx.step st kD (fun b hb => nf b (List.mem_append_left _ (List.mem_append_right _ hb))) hs)
  · rcases List.mem_append.mp hz with z | z
    · exact T.st _ z
    · rw [List.mem_singleton.mp z]; exact hs
theorem compF_cons {own : List Nat} {d : D} {ds : List D} {ρ : Vs.Env} {acc : List VV} {o : Option Vs.Env} (h : compF ((compL own gg gt ge (d :: ds) ρ acc).aft o) ≠ .no) :
    ∃ ρ1 b o1, gg ⟨false, 0, d⟩ ρ = .nx ρ1 ∧ gt ρ1 = .ok b o1 ∧
      (b = false → compF ((compL own gg gt ge (d :: ds) ρ acc).aft o) = compF ((compL own gg gt ge ds (now (o1.map (wipeE own)) ρ) acc).aft (thn o (o1.map (wipeE own))))) ∧
      (b = true → ∃ x o2, ge (now o1 ρ1) = .ok x o2 ∧ x.stable = true ∧
        compF ((compL own gg gt ge (d :: ds) ρ acc).aft o) = compF ((compL own gg gt ge ds (now ((thn o1 o2).map (wipeE own)) ρ) (acc ++ [x])).aft (thn o ((thn o1 o2).map (wipeE own))))) := by
  cases q1 : gg ⟨false, 0, d⟩ ρ with
  | nx ρ1 =>
    cases q2 : gt ρ1 with
    | ok b o1 =>
      refine ⟨ρ1, b, o1, rfl, q2, fun hb => ?_, fun hb => ?_⟩
      · subst hb
        conv => lhs; unfold compL
        rw [q1]
        simp only [q2]
        rw [aft_aft]
      · subst hb
        cases q3 : ge (now o1 ρ1) with
        | ok x o2 =>
          by_cases hs : x.stable = true
          · refine ⟨x, o2, rfl, hs, ?_⟩
            conv => lhs; unfold compL
            rw [q1]
            simp only [q2, q3, hs]
            rw [if_pos trivial, aft_aft]
          · exfalso
            apply h
            unfold compL
            rw [q1]
            simp only [q2, q3]
            rw [if_neg hs]
            rfl
        | ex _ _ =>
          exfalso; apply h; unfold compL; rw [q1]; simp only [q2, q3]; rfl
        | no =>
          exfalso; apply h; unfold compL; rw [q1]; simp only [q2, q3]; rfl
    | ex _ _ => exfalso; apply h; unfold compL; rw [q1]; simp only [q2]; rfl
    | no => exfalso; apply h; unfold compL; rw [q1]; simp only [q2]; rfl
  | _ => exfalso; apply h; unfold compL; rw [q1]; rfl
theorem kp_wipe {n : Nat} {own : List Nat} {σ σ2 : List (Option V)} (k : Kp (others n own) (L2.wipe σ own) σ2) (hn : n = σ.length) : ∀ i : Nat, i ∉ own → σ2[i]? = (L2.wipe σ own)[i]? := fun i hi => by
  by_cases h : i < n
  · exact k.2 i (others_get h hi)
  · have l1 : (L2.wipe σ own).length = σ.length := L2.wipe_length σ own
    rw [List.getElem?_eq_none (by rw [k.1, l1]; omega), List.getElem?_eq_none (by rw [l1]; omega)]
theorem wipe_same {own : List Nat} {σ σ2 : List (Option V)} (hl : σ2.length = (L2.wipe σ own).length) (h : ∀ i : Nat, i ∉ own → σ2[i]? = (L2.wipe σ own)[i]?) : L2.wipe σ2 own = L2.wipe σ own := by
  have l1 : (L2.wipe σ own).length = σ.length := L2.wipe_length σ own
  have l2 : (L2.wipe σ2 own).length = σ2.length := L2.wipe_length σ2 own
  refine List.ext_getElem? fun i => ?_
  by_cases hi : i ∈ own
  · have e : ∀ (τ : List (Option V)) (ow : List Nat), i ∈ ow → (L2.wipe τ ow)[i]? = if i < τ.length then some none else none := by
      intro τ ow
      induction ow with
      | nil => intro z; cases z
      | cons j ow ih =>
        intro z
        have lw : (L2.wipe τ ow).length = τ.length := L2.wipe_length τ ow
        show ((L2.wipe τ ow).set j none)[i]? = _
        by_cases e : j = i
        · subst e
          by_cases h : j < τ.length
          · rw [List.getElem?_set_self (by rw [lw]; exact h), if_pos h]
          · rw [List.getElem?_eq_none (by rw [List.length_set, lw]; omega), if_neg h]
        · rw [List.getElem?_set_ne e]
          exact ih ((List.mem_cons.mp z).resolve_left (Ne.symm e))
    rw [e _ _ hi, e _ _ hi, hl, l1]
  · rw [wipe_get hi]
    exact h i hi
theorem comp_runG {PX : TI → Prop} {Hi : BI → Prop} (hN : X.N.Nodup) (hi : ∀ W, Takes X W → ∃ wi, PX wi ∧ ∀ S F H σ ρ R, EnvRp X.K S H σ ρ F → Ok S H F → Good X.K ct (ItOk X.K) W S F H σ ρ (gi ρ) R → wi σ H R)
    (hg : ∀ n i, Hi i → SN ct (others n (own.map (·.2))) (blkX X scope i) tg gg) (ht : ∀ i, Hi i → STs ct (blkX X scope i) ifs gt) (he : ∀ i, Hi i → SE ct (blkX X scope i) elt ge) :
    ∀ W, Takes X W → ∃ wi g tt te, PX wi ∧ (∀ i, Hi i → PG (blkX X scope i) tg g) ∧ (∀ i, Hi i → PTs (blkX X scope i) ifs tt) ∧ (∀ i, Hi i → PE (blkX X scope i) elt te) ∧
      ∀ S F H σ ρ Q, EnvRp X.K S H σ ρ F → Ok S H F → Good X.K ct (VOk X.K) W S F H σ ρ (comp gi gg gt ge (own.map (·.2)) ρ) Q → tLc wi g tt te (own.map (·.2)) σ H Q := by
  intro W tk
  obtain ⟨wi, pi, ri⟩ := hi W tk
  refine ⟨wi, fun v σ H Q => ∀ i (z : Hi i), (hg σ.length i z).run.choose v σ H Q, fun σ H Q => ∀ i (z : Hi i), ((ht i z).run _ takes0).choose σ H Q, fun σ H Q => ∀ i (z : Hi i), ((he i z).run _ takes0).choose σ H Q, pi,
    fun i z => ⟨fun pins s σ H v u Q I r q => (hg σ.length i z).run.choose_spec.1.run pins s σ H v u Q I r (q i z)⟩,
    fun i z => ⟨fun pins s σ H Q I q => ((ht i z).run _ takes0).choose_spec.1.run pins s σ H Q I (q i z)⟩,
    fun i z => ⟨fun pins s σ H Q I q => ((he i z).run _ takes0).choose_spec.1.run pins s σ H Q I (q i z)⟩, fun S F H σ ρ Q E ok G => ?_⟩
  have rt : ∀ (i : BI) (z : Hi i) S F H σ ρ Q, EnvRp X.K S H σ ρ F → Ok S H F → Good X.K ct BOk (fun _ _ _ _ => False) S F H σ ρ (gt ρ) Q → ((ht i z).run _ takes0).choose σ H Q := fun i z => ((ht i z).run _ takes0).choose_spec.2
  have re : ∀ (i : BI) (z : Hi i) S F H σ ρ Q, EnvRp X.K S H σ ρ F → Ok S H F → Good X.K ct (VOk X.K) (fun _ _ _ _ => False) S F H σ ρ (ge ρ) Q → ((he i z).run _ takes0).choose σ H Q := fun i z => ((he i z).run _ takes0).choose_spec.2
  generalize hw : own.map (·.2) = ow at *
  refine ri S F H σ ρ _ E ok ?_
  unfold comp at G
  refine good_bind G fun ds o0 J S1 F1 H1 f0 _ t1 hJ E1 k1 G => ?_
  obtain ⟨rfl, hJ⟩ := hJ
  replace k1 : Ok S1 H1 F1 := k1
  intro Dd nD
  obtain ⟨fd, Fw, pw, Ew⟩ := E1.wipe ow
  generalize hρw : wipeE ow (now o0 ρ) = ρw at *
  have kw : Ok S1 H1 Fw := (k1.perm pw).tail
  have dead0 : ∀ j ∈ ow, look ρw j = none := fun j hj => by rw [← hρw]; exact look_wipe (.inr hj)
  have hE0 : EnvRp X.K S1 H1 (L2.wipe σ ow) ρw Fw := Ew.other (L2.wipe_length σ ow) fun i hi => wipe_get fun z => hi (dead0 i z)
  generalize hwh : compF (compL ow gg gt ge ds ρw []) = whole at G
  -- it comes to something
  have some_ : whole ≠ .no := fun z => by rw [z] at G; exact G
  have T0 : Turn' X.K ow σ ρw S1 Fw H1 Dd none [] [] [] S1 Fw (upd H1 Dd (.lst [])) := by
    have n2 := kw.dead Dd nD
    have sm : Same H1 (upd H1 Dd (.lst [])) := same_upd nD
    refine ⟨⟨sm, fun _ z => z, fun _ => .inl, rfl, fun b hb => by rw [List.mem_singleton.mp hb]; exact nD⟩, hE0.same sm, ?_, .nil, by simp, upd_same, dead0⟩
    exact new_okp kw nD trivial
  refine ⟨fun i m H' => ∃ o acc ws fa S' F', i + m = ds.length ∧ Turn' X.K ow σ ρw S1 Fw H1 Dd o acc ws fa S' F' H' ∧ compF ((compL ow gg gt ge (ds.drop i) (now o ρw) acc).aft o) = whole,
    ⟨ds.length, none, [], [], [], S1, Fw, by omega, T0, by rw [R.aft_none]; exact hwh⟩, fun i m H' hW => ?_⟩
  obtain ⟨o, acc, ws, fa, S', F', em, T, hwhole⟩ := hW
  have lat : Later S1 H1 S' H' := (T.fit.step.less fun b hb => List.mem_append_right _ hb).later kw
  obtain ⟨j1, j2⟩ := hJ S' H' lat i
  by_cases hlt : i < ds.length
  · -- one more turn
    obtain ⟨d, hd⟩ : ∃ d, ds[i]? = some d := ⟨ds[i], List.getElem?_eq_getElem hlt⟩
    obtain ⟨g1, g2⟩ := j1 d hd
    have ed : ds.drop i = d :: ds.drop (i + 1) := by
      have := List.drop_eq_getElem_cons hlt
      rw [List.getElem?_eq_getElem hlt] at hd
      rw [this, Option.some.inj hd]
    rw [ed] at hwhole
    obtain ⟨ρ1, b, o1, q1, q2, hF, hT⟩ := compF_cons (by rw [hwhole]; exact some_)
    rw [hwhole] at hF hT
    let Nx : Hp → Prop := fun H2 => ∃ o acc ws fa S' F', Turn' X.K ow σ ρw S1 Fw H1 Dd o acc ws fa S' F' H2 ∧ compF ((compL ow gg gt ge (ds.drop (i + 1)) (now o ρw) acc).aft o) = whole
    refine .inr ⟨g1, Nx, fun H2 hN => ?_, fun x H3 hy => ?_⟩
    · obtain ⟨o, acc, ws, fa, S', F', a, b⟩ := hN
      exact ⟨m - 1, by omega, o, acc, ws, fa, S', F', by omega, a, b⟩
    · obtain ⟨sm, rx⟩ := g2 x H3 hy
      have kF' : Ok S' H3 F' := T.ok.tail.same sm
      intro ib zb
      refine (hg _ ib zb).run.choose_spec.2 S' F' H3 (L2.wipe σ ow) (now o ρw) ⟨false, 0, d⟩ x [] ρ1 _ (by rw [VOk.own]; exact rx) (T.env.same sm) kF' q1 fun σ2 F2 s2 E2 k2 kp => ?_
      have hl2 : σ2.length = (L2.wipe σ ow).length := kp.1
      have hk2 := kp_wipe kp (L2.wipe_length σ ow)
      refine ⟨wipe_same hl2 hk2, fun ib2 zb2 => ?_⟩
      refine rt ib2 zb2 S' F2 H3 σ2 ρ1 _ E2 k2 ?_
      rw [q2]
      intro y S3 F3 H4 f t3 hb E3 k3
      obtain ⟨rfl, rfl⟩ := hb
      cases b with
      | false =>
        rw [if_neg Bool.false_ne_true]
        obtain ⟨F4, T4, _, _, _⟩ := T.next sm s2 t3 E3 k3 hl2 hk2
        refine ⟨_, acc, ws, fa, S3, F4, T4, ?_⟩
        rw [hF rfl, now_thn]
      | true =>
        rw [if_pos rfl]
        obtain ⟨xv, o2, q3, hs, hT⟩ := hT rfl
        intro ib3 zb3
        replace k3 : Ok S3 H4 F3 := k3
        refine re ib3 zb3 S3 F3 H4 σ2 (now o1 ρ1) _ E3 k3 ?_
        rw [q3]
        intro yv S5 F5 H5 fx t5 hx E5 k5
        have t35 : Fit (Vs.thn o1 o2) S' F2 H3 S5 F5 fx H5 := t3.thn (f := []) k3 t5 (fun b hb => .inr (.inl hb)) (Same.refl _)
        obtain ⟨F4, T4, t4, _, k4⟩ := T.next sm s2 t35 (by rw [now_thn]; exact E5) k5 hl2 hk2
        have bk : ∀ c, H' c = none → c ∈ Fw ∨ H1 c = none := fun c e => by
          by_cases hc : c ∈ Fw
          · exact .inl hc
          · cases q : H1 c with
            | none => exact .inr rfl
            | some u => rw [T.fit.step.keep c u q hc] at e; cases e
        have T5 := T4.push nD hx hs k4 (fun b hb => by
          rcases t4.step.newF b (List.mem_append_left _ hb) with z | z
          · exact T.fit.step.newF b (List.mem_append_right _ z)
          · exact bk b z) fun en b hb => by
          have eo : o = none ∧ (Vs.thn o1 o2).map (wipeE ow) = none := by
            cases hh : (Vs.thn o1 o2).map (wipeE ow) with
            | none => rw [hh] at en; exact ⟨en, rfl⟩
            | some _ => rw [hh] at en; cases en
          obtain ⟨rfl, e2⟩ := eo
          rw [e2] at t4
          obtain ⟨_, _, _, _, n4⟩ := t4
          obtain ⟨e1, _⟩ := T.fit
          exact e1.free (n4 b hb)
        have hlen : (acc ++ [xv]).length ≤ lim := by
          obtain ⟨xs, o', e1, e2⟩ := compF_some (by rw [← hT]; exact some_)
          exact Nat.le_trans (compL_len e1) e2
        refine ⟨ws, T4.at_, ?_, _, _, _, _, S5, F4, T5, ?_⟩
        · rw [← T4.vs.len, ← lim_eq]
          rw [List.length_append] at hlen
          exact hlen
        · rw [hT, now_thn]
  · -- the end
    refine .inl ⟨j2 (by omega), ?_⟩
    rw [List.drop_eq_nil_of_le (by omega)] at hwhole
    have hwhole : (R.ofO (kLst acc)).aft o = whole := by
      rw [← hwhole]
      show _ = (R.ofO (kLst acc)).aft (Vs.thn o none)
      rw [thn_none]
    rw [← hwhole] at G some_
    -- all slots behind
    have fin : ∃ F2, Fit o S1 F1 H1 S' F2 (Dd :: fa) H' ∧ EnvRp X.K S' H' σ (now o (now o0 ρ)) F2 ∧ Ok S' H' ((Dd :: fa) ++ F2) := by
      have j : Ok S' H' (fd ++ ((Dd :: fa) ++ F')) := Ok.join T.fit.step (k1.perm pw) T.ok
      cases o with
      | none =>
        obtain ⟨e, u1, u2, rfl, n⟩ := T.fit
        exact ⟨F1, ⟨e, u1, u2, rfl, n⟩, (E1.same e).more u1, (j.perm perm_mid).perm (List.Perm.append_left _ pw.symm)⟩
      | some ρe =>
        refine ⟨F', Step.wide T.fit (fun b hb => pw.mem_iff.mpr (List.mem_append_right _ hb)) fun b hb => .inl hb, T.env.other (L2.wipe_length σ ow).symm fun i hi => ?_, T.ok⟩
        exact (wipe_get fun z => hi (T.dead i z)).symm
    obtain ⟨F2, t2, E2, k2⟩ := fin
    cases q : kLst acc with
    | none => rw [q] at some_; exact absurd rfl some_
    | some z =>
      rw [q] at G
      unfold kLst at q
      split at q
      · rename_i c
        obtain rfl := Option.some.inj q
        obtain ⟨n, hn, hle⟩ := dmode_pos acc
        rw [hn] at G
        obtain ⟨g, f1, p, r⟩ := T.vs.all n c.1 hle
        have gr : Grow S' H' (Dd :: fa) (fun b => S' b ∨ b ∈ f1) (Dd :: g) H' := ⟨Same.refl _, fun b => Or.inl, fun b hb => hb.imp id fun z => .inl (List.mem_cons_of_mem _ (p.mem_iff.mpr (List.mem_append_right _ z))),
          fun b hb => .inl (by
            rcases List.mem_cons.mp hb with z | z
            · rw [z]; exact List.mem_cons_self ..
            · exact List.mem_cons_of_mem _ (p.mem_iff.mpr (List.mem_append_left _ z)))⟩
        have okg : Ok (fun b => S' b ∨ b ∈ f1) H' (Dd :: g) := split_ok (f := Dd :: fa) (g := Dd :: g) T.ok.head (List.Perm.cons _ p)
        have t3 := t1.thn (f := []) k1 (t2.grow k2 gr) (h := Dd :: g) (fun b hb => .inr (.inl hb)) (Same.refl _)
        refine G _ _ F2 H' (Dd :: g) t3 (by rw [VOk.own]; exact .lst1 T.at_ r) ?_ (gr.ok k2 okg)
        rw [now_thn]
        exact E2.more gr.sub
      · cases q
theorem comp_run (hN : X.N.Nodup) (hi : SI ct X tg iter gi)
    (hg : ∀ n i, SN ct (others n (own.map (·.2))) (blkX X scope i) tg gg) (ht : ∀ i, STs ct (blkX X scope i) ifs gt) (he : ∀ i, SE ct (blkX X scope i) elt ge) :
    ∀ W, Takes X W → ∃ wi g tt te, PI X tg iter wi ∧ (∀ i, PG (blkX X scope i) tg g) ∧ (∀ i, PTs (blkX X scope i) ifs tt) ∧ (∀ i, PE (blkX X scope i) elt te) ∧
      ∀ S F H σ ρ Q, EnvRp X.K S H σ ρ F → Ok S H F → Good X.K ct (VOk X.K) W S F H σ ρ (comp gi gg gt ge (own.map (·.2)) ρ) Q → tLc wi g tt te (own.map (·.2)) σ H Q := fun W tk =>
  let ⟨wi, g, tt, te, a, b, c, d, e⟩ := comp_runG (PX := PI X tg iter) (Hi := fun _ => True) (own := own) hN hi.run (fun n i _ => hg n i) (fun i _ => ht i) (fun i _ => he i) W tk
  ⟨wi, g, tt, te, a, fun i => b i trivial, fun i => c i trivial, fun i => d i trivial, e⟩
end
end Vs
set_option maxHeartbeats 4000000
/-! Vs: a rule per construct. -/
namespace Vs
open PySem PySem.Spec PyProof.Rows L2
section
variable {ct : Str → Addr} {lent : List Bool} {X : Cx} {a b c e : Expr} {es : List Expr} {ga gb gc ge : M} {gs : MA} {pos p : Pos}
/-! ### nothing known -/
theorem se_no : SE ct X e (fun _ => .no) := ⟨fun W tk => ⟨fun _ _ _ => False, ⟨fun _ _ _ _ _ _ h => h.elim⟩, fun _ _ _ _ _ _ _ _ G => G⟩⟩
theorem ss_no {st : Stmt} : SS ct lent X st (fun _ => .no) := ⟨fun W tk po => ⟨fun _ _ _ => False, ⟨fun _ _ _ _ _ _ h => h.elim⟩, fun _ _ _ _ _ _ _ _ G => G⟩⟩
/-! ### operators -/
theorem s_op {op : Operator} {r : R2} {k : VV → VV → Option VV} (ho : OpR X (binaryOp op) r) (hk : Op2 X.K r k) (ha : SE ct X a ga) (hb : SE ct X b gb) : SE ct X (.BinOp a op b pos) (two ga gb k) := run_two ha hb (fun pa pb => pe_op ho pa pb) hk
theorem s_cmp {op : CmpOp} {r : R2} {k : VV → VV → Option VV} (ho : OpR X (compareOp op) r) (hk : Op2 X.K r k) (hm : behindInMarks op b = false) (ha : SE ct X a ga) (hb : SE ct X b gb) : SE ct X (.Compare a [op] [b] pos) (two ga gb k) := run_two ha hb (fun pa pb => pe_cmpR ho pa pb hm) hk
theorem s_add (ha : SE ct X a ga) (hb : SE ct X b gb) : SE ct X (.BinOp a .Add b pos) (two ga gb kAdd) := s_op op_add3 kAdd_op ha hb
theorem s_sub (ha : SE ct X a ga) (hb : SE ct X b gb) : SE ct X (.BinOp a .Sub b pos) (two ga gb kSub) := s_op op_sub kSub_op ha hb
theorem s_mul (ha : SE ct X a ga) (hb : SE ct X b gb) : SE ct X (.BinOp a .Mult b pos) (two ga gb kMul) := s_op op_mul2 kMul_op ha hb
theorem s_mod (ha : SE ct X a ga) (hb : SE ct X b gb) : SE ct X (.BinOp a .Mod b pos) (two ga gb kMod) := s_op op_mod kMod_op ha hb
theorem s_div (ha : SE ct X a ga) (hb : SE ct X b gb) : SE ct X (.BinOp a .FloorDiv b pos) (two ga gb kDiv) := s_op op_fdivW kDiv_op ha hb
theorem s_pow (ha : SE ct X a ga) (hb : SE ct X b gb) : SE ct X (.BinOp a .Pow b pos) (two ga gb kPow) := s_op op_powB kPow_op ha hb
theorem kBit_op {φ : Int → Int → Int} : Op2 X.K (rI0 fun i j => .int (φ i j)) (kBit φ) := op2_int0 fun x y z e => by
  unfold kBit at e
  split at e
  · rename_i i j h1 h2
    obtain rfl := Option.some.inj e
    exact ⟨i, j, h1, h2, rfl, fun _ _ => .int _ _⟩
  · cases e
theorem s_band (ha : SE ct X a ga) (hb : SE ct X b gb) : SE ct X (.BinOp a .BitAnd b pos) (two ga gb (kBit Builtin.bitAnd)) := s_op op_and kBit_op ha hb
theorem s_bor (ha : SE ct X a ga) (hb : SE ct X b gb) : SE ct X (.BinOp a .BitOr b pos) (two ga gb (kBit Builtin.bitOr)) := s_op op_or kBit_op ha hb
theorem s_bxor (ha : SE ct X a ga) (hb : SE ct X b gb) : SE ct X (.BinOp a .BitXor b pos) (two ga gb (kBit Builtin.bitXor)) := s_op op_xor kBit_op ha hb
theorem s_lt (ha : SE ct X a ga) (hb : SE ct X b gb) : SE ct X (.Compare a [.Lt] [b] pos) (two ga gb kLt) := s_cmp op_lt kCmp_op (nomark _) ha hb
theorem s_le (ha : SE ct X a ga) (hb : SE ct X b gb) : SE ct X (.Compare a [.LtE] [b] pos) (two ga gb kLe) := s_cmp op_le kCmp_op (nomark _) ha hb
theorem s_gt (ha : SE ct X a ga) (hb : SE ct X b gb) : SE ct X (.Compare a [.Gt] [b] pos) (two ga gb kGt) := s_cmp op_gt kCmp_op (nomark _) ha hb
theorem s_ge (ha : SE ct X a ga) (hb : SE ct X b gb) : SE ct X (.Compare a [.GtE] [b] pos) (two ga gb kGe) := s_cmp op_ge kCmp_op (nomark _) ha hb
theorem s_is (ha : SE ct X a ga) (hb : SE ct X b gb) : SE ct X (.Compare a [.Is] [b] pos) (two ga gb kIs) := s_cmp op_is2 kIs_op (nomark _) ha hb
theorem s_isnot (ha : SE ct X a ga) (hb : SE ct X b gb) : SE ct X (.Compare a [.IsNot] [b] pos) (two ga gb kIsNot) := s_cmp op_isNot2 kIsNot_op (nomark _) ha hb
theorem units_of {A : Around} {k : Nat} (hr : Room k A) : A.units + 65 < cLine := by
  have := hr.un
  omega
theorem s_eq {k : Nat} (hr : Room k X.A) (ha : SE ct X a ga) (hb : SE ct X b gb) : SE ct X (.Compare a [.Eq] [b] pos) (two ga gb kEq) := s_cmp (op_eqS (units_of hr)) kEq_op (nomark _) ha hb
theorem s_ne {k : Nat} (hr : Room k X.A) (ha : SE ct X a ga) (hb : SE ct X b gb) : SE ct X (.Compare a [.NotEq] [b] pos) (two ga gb kNe) := s_cmp (op_neS (units_of hr)) kNe_op (nomark _) ha hb
theorem s_in {k : Nat} (hr : Room k X.A) (ha : SE ct X a ga) (hb : SE ct X b gb) (hm : behindInMarks .In b = false := by with_unfolding_all rfl) : SE ct X (.Compare a [.In] [b] pos) (two ga gb kIn) := s_cmp (op_in2 (units_of hr)) kIn_op hm ha hb
theorem s_notin {k : Nat} (hr : Room k X.A) (ha : SE ct X a ga) (hb : SE ct X b gb) (hm : behindInMarks .NotIn b = false := by with_unfolding_all rfl) : SE ct X (.Compare a [.NotIn] [b] pos) (two ga gb kNotIn) := s_cmp (op_notIn2 (units_of hr)) kNotIn_op hm ha hb
theorem s_ix (ha : SE ct X a ga) (hb : SE ct X b gb) (hs : PlainIx b := by exact fun _ _ => rfl) : SE ct X (.Subscript a b pos) (two ga gb kIx) := run_two ha hb (fun pa pb => pe_ix ix_seq pa pb hs) kIx_op
theorem kNeg_op : Op1 X.K (rU fun i => .int (-i)) kNeg := fun S H x v f z Q h ok e hQ => by
  unfold kNeg at e
  split at e
  · rename_i i el
    obtain rfl := Option.some.inj e
    exact ⟨i, h.int el, ret_imm ok rfl (.int _ _) hQ⟩
  · cases e
theorem s_neg (ha : SE ct X a ga) : SE ct X (.UnaryOp .USub a pos) (one ga kNeg) := run_one ha (fun pa => pe_un un_neg pa) kNeg_op
/-! ### displays -/
theorem s_lst (ha : SA ct X es gs) : SE ct X (.List es pos) (argsk gs kLst) := run_args ha (fun pa => pe_lst pa) kLst_op
theorem s_tup {j : Nat} (ha : SA ct X es gs) : SE ct X (.Tuple es j pos) (argsk gs kTup) := run_args ha (fun pa => pe_tup pa) kTup_op
/-! ### built-ins -/
theorem s_bi {x : Str} {id : String} {r : List V → Hp → VK → Prop} {k : List VV → Option VV} (hc : CallR X (.builtin id) r) (hk : OpN X.K r k) (hg : Gl X x) (hm : X.mg x = none) (hv : bootBuiltins x = some (.builtin id)) (hn : x ≠ "__name__") (hdb : (x == ("__debug__" : Str)) = false) (ha : SA ct X (e :: es) gs)
    (he : starEach (e :: es) X.env = (false, eval e X.env) :: starEach es X.env := by rfl) (hpl : (backTo pos (starEach es X.env)).any (·.1) = false := by rfl) : SE ct X (.Call (.Name x p) (e :: es) [] pos) (argsk gs k) :=
  run_args ha (fun pa => pe_callB hc hg hm hv pa hn hdb he hpl) hk
theorem s_ty {x : Str} {T : String} {r : List V → Hp → VK → Prop} {k : List VV → Option VV} (hc : CallR X (.type T) r) (hk : OpN X.K r k) (hg : Gl X x) (hm : X.mg x = none) (hv : bootBuiltins x = some (.type T)) (hn : x ≠ "__name__") (hdb : (x == ("__debug__" : Str)) = false) (ha : SA ct X (e :: es) gs)
    (he : starEach (e :: es) X.env = (false, eval e X.env) :: starEach es X.env := by rfl) (hpl : (backTo pos (starEach es X.env)).any (·.1) = false := by rfl) : SE ct X (.Call (.Name x p) (e :: es) [] pos) (argsk gs k) :=
  run_args ha (fun pa => pe_callTy hc hg hm hv pa hn hdb he hpl) hk
/-! ### assignments -/
theorem ss_asg {tg : Expr} {gg : MG} (he : SE ct X e ge) (hg : SG ct lent X tg gg) (hs : swapsWithSole [tg] e pos.line X.env = pure false := by rfl) (hw : swappedStores [tg] e X.env = pure none := by rfl)
    (h1 : (assignEach [tg] X.env).map (·.2) = [assign tg X.env] := by rfl) : SS ct lent X (.Assign [tg] e pos) (asg ge gg) := by
  refine ⟨fun W tk po => ?_⟩
  obtain ⟨te, pe, re⟩ := he.run W tk
  obtain ⟨tg', pg, rg⟩ := hg.run W tk
  refine ⟨_, ps_asg pe pg hs hw h1, fun S F H σ ρ D E ok G => re S F H σ ρ _ E ok ?_⟩
  refine good_go G fun x o v S1 F1 H1 f st h E1 ok1 G => ?_
  exact rg S1 F1 H1 σ _ x v f D D.nx h E1 ok1 (fun _ _ z => z) (GoodS.from st Kp.refl G)
/-- the slots named are read as they are -/
theorem VV.plain_ok {K : PySem.W.Frag} {S S' : Addr → Prop} {H : Hp} {x : VV} {v : V} {f : List Addr} (hp : x.plain = true) (h : VOk K S H x v f) : VOk K S' H x v f := by
  have all0 : ∀ {m : Nat} {xs : List V} {ds : List D} {g : List Addr}, RpAll K S H m xs ds g → ds.all D.imm = true → g = [] ∧ RpAll K S' H m xs ds [] := by
    intro m xs ds g h
    induction ds generalizing xs g with
    | nil => cases h; exact fun _ => ⟨rfl, .nil _⟩
    | cons d ds ih =>
      intro hc
      rw [List.all_cons, Bool.and_eq_true] at hc
      cases h with
      | cons h1 h2 =>
        obtain ⟨rfl, q⟩ := ih h2 hc.2
        obtain ⟨rfl, q1⟩ := h1.imm hc.1
        exact ⟨rfl, .cons (f := []) (g := []) (q1 _ _ _) q⟩
  obtain ⟨b, m, d⟩ := x
  unfold VV.plain at hp
  rw [Bool.and_eq_true] at hp
  obtain ⟨h1, h2⟩ := hp
  cases b with
  | true => cases h1
  | false =>
    rw [VOk.own] at h ⊢
    have im : d.imm = true → Rp K S' H m v d f := fun i => by
      obtain ⟨rfl, q⟩ := h.imm i
      exact q _ _ _
    cases d with
    | lst ds =>
      replace h2 : (m == 1 && ds.all D.imm) = true := h2
      rw [Bool.and_eq_true] at h2
      obtain rfl : m = 1 := by simpa using h2.1
      cases h with
      | lst1 q r =>
        obtain ⟨rfl, r'⟩ := all0 r h2.2
        exact .lst1 q r'
    | tup ds =>
      replace h2 : ds.all D.imm = true := h2
      cases h with
      | tup0 q r => exact .tup0 q (all0 r h2).2
      | tup1 q r =>
        obtain ⟨rfl, r'⟩ := all0 r h2
        exact .tup1 q r'
    | non => exact im rfl
    | bl _ => exact im rfl
    | int _ => exact im rfl
    | str _ => exact im rfl
    | dic _ => cases h2
    | ins _ _ => cases h2
theorem peek_run {ta : TE} {W : WX} {is : List Nat} (ra : ∀ S F H σ ρ Q, EnvRp X.K S H σ ρ F → Ok S H F → Good X.K ct (VOk X.K) W S F H σ ρ (ga ρ) Q → ta σ H Q)
    (S F H) (σ : L2.St) (ρ : Vs.Env) (Q : VK) (E : EnvRp X.K S H σ ρ F) (ok : Ok S H F) (G : Good X.K ct (VOk X.K) W S F H σ ρ (peek is ga ρ) Q) : ta σ H Q := by
  obtain ⟨S', F', st, E', ok'⟩ := thin_env 0 is E ok
  refine ra S' F' H σ _ Q E' ok' ?_
  unfold peek at G
  cases q : ga (thin 0 is ρ) with
  | no => rw [q] at G; exact G
  | ex _ _ => rw [q] at G; exact G.elim
  | ok x o =>
    rw [q] at G
    cases o with
    | some _ => exact G.elim
    | none =>
      by_cases hp : x.plain = true
      · replace G : Good X.K ct (VOk X.K) W S F H σ ρ (if x.plain = true then .pu x else .no) Q := G
        rw [if_pos hp] at G
        intro y S2 F2 H2 f t h E2 k2
        obtain ⟨sm, u1, u2, rfl, n⟩ := t
        refine G y S F H2 f ⟨sm, fun _ z => z, fun _ => .inl, rfl, n⟩ (VV.plain_ok hp h) (E.same sm) ?_
        have kf := k2.head
        exact (⟨kf.nd, kf.mu, fun b hb z => ok.tr b z (n b hb), (ok.same sm).tr⟩ : Ok S H2 f).two (ok.same sm) fun b hb z => ok.mem z (n b hb)
      · replace G : Good X.K ct (VOk X.K) W S F H σ ρ (if x.plain = true then .pu x else .no) Q := G
        rw [if_neg hp] at G
        exact G.elim
theorem s_peek {is : List Nat} (ha : SE ct X a ga) : SE ct X a (peek is ga) := by
  refine ⟨fun W tk => ?_⟩
  obtain ⟨ta, pa, ra⟩ := ha.run W tk
  exact ⟨ta, pa, peek_run ra⟩
theorem s_soft {is : List Nat} (ha : SE ct X a ga) : SE ct X a (soft is ga) := by
  refine ⟨fun W tk => ?_⟩
  obtain ⟨ta, pa, ra⟩ := ha.run W tk
  refine ⟨ta, pa, fun S F H σ ρ Q E ok G => ?_⟩
  have rest : Good X.K ct (VOk X.K) W S F H σ ρ (fz 0 is ga ρ) Q → ta σ H Q := fun G => by
    unfold fz at G
    by_cases hk : isThin 0 is ρ = true
    · rw [if_pos hk] at G
      exact ra S F H σ ρ Q E ok G
    · rw [if_neg hk] at G
      obtain ⟨S', F', st, E', ok'⟩ := thin_env 0 is E ok
      exact ra S' F' H σ _ Q E' ok' (good_after (o := some (thin 0 is ρ)) (f := []) st ok' G)
  unfold soft at G
  cases q : ga (thin 0 is ρ) with
  | no => rw [q] at G; exact G.elim
  | ex _ _ => rw [q] at G; exact rest G
  | ok x o =>
    rw [q] at G
    cases o with
    | some _ => exact rest G
    | none =>
      replace G : Good X.K ct (VOk X.K) W S F H σ ρ (if x.plain = true then .pu x else fz 0 is ga ρ) Q := G
      by_cases hp : x.plain = true
      · rw [if_pos hp] at G
        refine peek_run (is := is) ra S F H σ ρ Q E ok ?_
        unfold peek
        rw [q]
        show Good X.K ct (VOk X.K) W S F H σ ρ (if x.plain = true then .pu x else .no) Q
        rw [if_pos hp]
        exact G
      · rw [if_neg hp] at G
        exact rest G
end
end Vs
set_option maxHeartbeats 4000000
/-! Vs: methods, stores into lists. -/
namespace Vs
open PySem PySem.Spec PyProof.Rows L2
section
variable {K : PySem.W.Frag} {S S' : Addr → Prop} {H : Hp}
theorem mut_lst {a : Addr} {xs : List V} (h : H a = some (.lst xs)) : Mut (H a) := by rw [h]; trivial
/-- a list's place is written -/
theorem RpAll.wr {a : Addr} {o : HO} (hm : Mut (H a)) (hS : ¬ S a) {m : Nat} {v : List V} {d : List D} {f : List Addr} (hf : a ∉ f) (h : RpAll K S H m v d f) : RpAll K S (upd H a o) m v d f :=
  h.keep (fun b u hb e => by rw [upd_ne (show b ≠ a from fun z => hS (by rw [← z]; exact hb))]; exact e) (fun b u e nm => by
    rw [upd_ne fun z => nm (by rw [← e, z]; exact hm)]
    exact e) (fun _ z => z) fun b u hb e => by rw [upd_ne (show b ≠ a from fun z => hf (by rw [← z]; exact hb))]; exact e
theorem Ok.wr {a : Addr} {o : HO} {F : List Addr} (ho : Mut (some o)) (ok : Ok S H F) (ha : H a ≠ none) : Ok S (upd H a o) F :=
  ⟨ok.nd, fun b hb => by
    by_cases e : b = a
    · rw [e, upd_same]; exact ho
    · rw [upd_ne e]; exact ok.mu b hb, ok.ns, fun b hb => by
    by_cases e : b = a
    · rw [e, upd_same]; simp
    · rw [upd_ne e]; exact ok.tr b hb⟩
/-- a new item beside the others: all as deep as they can be -/
theorem RpAll.meet {m : Nat} {xs : List V} {ds : List D} {f g : List Addr} {n : Nat} {y : V} {d : D} (h : RpAll K S H m xs ds f) (r : Rp K S H n y d g) :
    ∃ ff gg f1, (f ++ g).Perm ((ff ++ gg) ++ f1) ∧ RpAll K (fun b => S b ∨ b ∈ f1) H (if d.imm = true then m else min m n) xs ds ff ∧ Rp K (fun b => S b ∨ b ∈ f1) H (if d.imm = true then m else min m n) y d gg := by
  by_cases hi : d.imm = true
  · rw [if_pos hi]
    obtain ⟨rfl, q⟩ := r.imm hi
    exact ⟨f, [], [], by simp, h.more fun _ => .inl, q _ _ _⟩
  · rw [if_neg hi]
    obtain ⟨f0, f1, p, h0⟩ := h.thin n
    obtain ⟨g0, g1, p', r0⟩ := r.thin m
    rw [Nat.min_comm n m] at r0
    exact ⟨f0, g0, f1 ++ g1, thin_perm p p', h0.more fun b hb => hb.imp id (List.mem_append_left _), r0.more fun b hb => hb.imp id (List.mem_append_right _)⟩
/-- the list at a of a slot is written anew: items xs, with ff of their own; h goes elsewhere -/
theorem write_ok {a : Addr} {f1 ff h G : List Addr} {ys : List V} {ds : List D} {n : Nat} {zs : List V} (ha : H a = some (.lst zs)) (ok : Ok S H G) (p : G.Perm ((h ++ (a :: ff)) ++ f1)) (r : RpAll K (fun b => S b ∨ b ∈ f1) H n ys ds ff) :
    Step S G H (fun b => S b ∨ b ∈ f1) (h ++ (a :: ff)) (upd H a (.lst ys)) ∧ Rp K (fun b => S b ∨ b ∈ f1) (upd H a (.lst ys)) (n + 1) (.ref a) (.lst ds) (a :: ff) ∧ Ok (fun b => S b ∨ b ∈ f1) (upd H a (.lst ys)) (h ++ (a :: ff)) := by
  have k := split_ok ok p
  have ka : Ok (fun b => S b ∨ b ∈ f1) H (a :: ff) := k.tail
  have nS : ¬ (S a ∨ a ∈ f1) := ka.ns a (List.mem_cons_self ..)
  have nf : a ∉ ff := (List.nodup_cons.mp ka.nd).1
  have hg : a ∈ G := p.mem_iff.mpr (List.mem_append_left _ (List.mem_append_right _ (List.mem_cons_self ..)))
  refine ⟨⟨fun b o e hb => by rw [upd_ne fun z => hb (by rw [z]; exact hg)]; exact e, fun _ => .inl, fun b hb => .inl (p.mem_iff.mpr (List.mem_append_left _ hb)), fun b hb => hb.imp id fun z => .inl (p.mem_iff.mpr (List.mem_append_right _ z))⟩, ?_, k.wr trivial (by rw [ha]; simp)⟩
  exact .lst1 upd_same (r.wr (mut_lst ha) nS nf)
/-- a method's call on a list of a slot -/
def Recv1 (K : PySem.W.Frag) (r : V → List V → Hp → VK → Prop) (k : PV → List VV → Option (VV × PV)) : Prop :=
  ∀ S H pv v f xs vs g z pv' Q, Rp K S H pv.1 v pv.2 f → VsOk K S H xs vs g → Ok S H (g ++ f) → k pv xs = some (z, pv') →
    (∀ w H' S' h f', Step S (g ++ f) H S' (h ++ f') H' → VOk K S' H' z w h → Rp K S' H' pv'.1 v pv'.2 f' → Ok S' H' (h ++ f') → Q w H') → r v vs H Q
theorem rAppend_rc : Recv1 K L2.rAppend rAppend := fun S H pv v f xs vs g z pv' Q h hx ok e hQ => by
  unfold rAppend at e
  split at e
  · rename_i m l x
    split at e
    · rename_i c
      obtain ⟨rfl, rfl⟩ := Prod.mk.inj (Option.some.inj e)
      obtain ⟨y, rfl, hy⟩ := hx.one
      have hy := hy.stab c.1
      replace h : Rp K S H (m + 1) v (.lst l) f := h
      cases h with
      | lst1 ha r =>
        rename_i a zs f0
        obtain ⟨ff, gg, f1, p, r1, r2⟩ := r.meet hy
        refine ⟨a, zs, y, rfl, rfl, ha, by rw [r.length, ← lim_eq]; exact c.2, ?_⟩
        have p2 : (g ++ (a :: f0)).Perm (([] ++ (a :: (ff ++ gg))) ++ f1) := by
          refine List.perm_append_comm.trans ?_
          exact List.Perm.cons a p
        have r3 := RpAll.append r1 (RpAll.cons r2 (.nil _))
        rw [List.append_nil] at r3
        obtain ⟨w1, w2, w3⟩ := write_ok (h := []) ha ok p2 r3
        exact hQ .non _ _ [] _ w1 (by rw [VOk.own]; exact .non _) w2 w3
    · cases e
  · cases e
theorem take_ok {a : Addr} {g1 gg g2 : List Addr} {zs ys : List V} {ds : List D} {m : Nat} {u : V} {d : D} (ha : H a = some (.lst zs)) (ok : Ok S H ([] ++ (a :: (g1 ++ gg ++ g2)))) (p3 : Rp K S H m u d gg) (p5 : RpAll K S H m ys ds (g1 ++ g2)) :
    ∃ S', Step S ([] ++ (a :: (g1 ++ gg ++ g2))) H S' (gg ++ (a :: (g1 ++ g2))) (upd H a (.lst ys)) ∧ Rp K S' (upd H a (.lst ys)) m u d gg ∧ Rp K S' (upd H a (.lst ys)) (m + 1) (.ref a) (.lst ds) (a :: (g1 ++ g2)) ∧ Ok S' (upd H a (.lst ys)) (gg ++ (a :: (g1 ++ g2))) := by
  have p2 : ([] ++ (a :: (g1 ++ gg ++ g2))).Perm ((gg ++ (a :: (g1 ++ g2))) ++ []) := by
    rw [List.append_nil, List.nil_append]
    refine List.Perm.trans (List.Perm.cons a ?_) (List.perm_middle (l₁ := gg) (l₂ := g1 ++ g2)).symm
    rw [List.append_assoc]
    exact perm_mid
  obtain ⟨w1, w2, w3⟩ := write_ok (h := gg) ha ok p2 (p5.more fun _ => .inl)
  have ka := ok.perm p2
  rw [List.append_nil] at ka
  refine ⟨_, w1, ?_, w2, w3⟩
  refine (p3.more fun _ => .inl).keep (fun b o hb e => ?_) (fun b o e nm => ?_) (fun _ z => z) fun b o hb e => ?_
  · rw [upd_ne (show b ≠ a from fun z => ka.ns a (List.mem_append_right _ (List.mem_cons_self ..)) (by rw [← z]; exact hb.resolve_right (by simp)))]
    exact e
  · rw [upd_ne (show b ≠ a from fun z => nm (by rw [← e, z]; exact mut_lst ha))]
    exact e
  · rw [upd_ne (show b ≠ a from fun z => ka.apart b hb (by rw [z]; exact List.mem_cons_self ..))]
    exact e
theorem line63' {n : Nat} (h : n ≤ lim) : n < 2 ^ 63 := by unfold lim at h; omega
theorem rPopAt_rc : Recv1 K L2.rPopAt rPopAt := fun S H pv v f xs vs g z pv' Q h hx ok e hQ => by
  unfold rPopAt at e
  split at e
  · rename_i m l b n i
    split at e
    · rename_i c
      cases q1 : nix l.length i with
      | none => rw [q1] at e; cases e
      | some j =>
        rw [q1] at e
        cases q2 : l[j]? with
        | none => rw [Option.bind_some, q2] at e; cases e
        | some d =>
          rw [Option.bind_some, q2] at e
          obtain ⟨rfl, rfl⟩ := Prod.mk.inj (Option.some.inj e)
          obtain ⟨y, rfl, hy⟩ := hx.one
          obtain rfl := hy.int'
          have hg : g = [] := by
            unfold VOk at hy
            split at hy
            · exact hy.1
            · exact (hy.imm rfl).1
          subst hg
          replace h : Rp K S H (m + 1) v (.lst l) f := h
          cases h with
          | lst1 ha r =>
            rename_i a zs f0
            obtain ⟨u, g1, gg, g2, p1, rfl, p3, _, p5⟩ := r.at q2
            have hj : ixN zs.length i = some j := by rw [r.length]; exact q1
            obtain ⟨s1, s2, s3, s4⟩ := ixN_seq hj
            have hb := line63' c
            rw [← r.length] at hb
            refine ⟨a, zs, i, j, u, rfl, rfl, ha, by omega, by omega, s1, p1, ?_⟩
            obtain ⟨S', w1, hu, w2, w3⟩ := take_ok ha ok p3 p5
            exact hQ u _ _ gg _ w1 (by rw [VOk.own]; exact hu) w2 w3
    · cases e
  · cases e
theorem rPop_rc : Recv1 K L2.rPop rPop := fun S H pv v f xs vs g z pv' Q h hx ok e hQ => by
  unfold rPop at e
  split at e
  · rename_i m l
    cases q2 : l[l.length - 1]? with
    | none => rw [q2] at e; cases e
    | some d =>
      rw [q2] at e
      obtain ⟨rfl, rfl⟩ := Prod.mk.inj (Option.some.inj e)
      cases hx with
      | nil =>
        replace h : Rp K S H (m + 1) v (.lst l) f := h
        cases h with
        | lst1 ha r =>
          rename_i a zs f0
          obtain ⟨u, g1, gg, g2, p1, rfl, p3, _, p5⟩ := r.at q2
          have el : zs.length - 1 = l.length - 1 := by rw [r.length]
          have hz : 0 < zs.length := by
            have := (List.getElem?_eq_some_iff.mp p1).1
            omega
          have hl : 0 < l.length := by rw [← r.length]; exact hz
          rw [List.eraseIdx_eq_dropLast (by omega), List.eraseIdx_eq_dropLast (by omega)] at p5
          obtain ⟨S', w1, hu, w2, w3⟩ := take_ok ha ok p3 p5
          exact ⟨a, zs, u, rfl, rfl, ha, by rw [el]; exact p1, hQ u _ _ gg _ w1 (by rw [VOk.own]; exact hu) w2 w3⟩
  · cases e
/-- o.m(..), o a list in a slot -/
theorem s_recv {i : Nat} {x : Str} {es : List Expr} {ga : MA} {e : Expr} {p : Pos} {ct : Str → Addr} {X : Cx} {r : V → List V → Hp → VK → Prop} {k : PV → List VV → Option (VV × PV)} (ho : Recv1 X.K r k) (ha : SA ct X es ga)
    (mk : ∀ {to t}, PE X (.Name x p) to → PA X es t → PE X e (tBM X.K "list" r to t))
    (hN : X.N[i]? = some x := by rfl) (hv : Vis X.env.scope x := by first | exact Or.inl rfl | exact Or.inr (Or.inl rfl) | exact Or.inr (Or.inr rfl)) (hd : (x == ("__debug__" : Str)) = false := by decide)
    (hcd : (x == ("__classdict__" : Str)) = false := by decide) : SE ct X e (recv i ga k) := by
  refine ⟨fun W tk => ?_⟩
  obtain ⟨ta, pa, ra⟩ := ha.run W tk
  refine ⟨_, mk (pv i hN hv hd hcd) pa, fun S F H σ ρ Q E ok G => ?_⟩
  unfold recv at G
  cases q : look ρ i with
  | none => rw [q] at G; exact G.elim
  | some pv0 =>
    obtain ⟨m, d⟩ := pv0
    rw [q] at G
    cases d with
    | lst l =>
      obtain ⟨v, f0, G0, h1, h2, _⟩ := E.take q
      refine ⟨v, h1, ?_, ?_⟩
      · obtain ⟨a, xs, g, rfl, q1, _⟩ := h2.lst
        exact .inl ⟨rfl, xs, q1⟩
      · refine ra S F H σ ρ _ E ok ?_
        refine good_bind G fun xs o vs S1 F1 H1 g _ t1 hx E1 k1 G => ?_
        cases q2 : look (now o ρ) i with
        | none => rw [q2] at G; exact G.elim
        | some pv =>
          rw [q2] at G
          cases q3 : k pv xs with
          | none => simp only [q3] at G; exact G.elim
          | some z =>
            obtain ⟨z, pv'⟩ := z
            simp only [q3] at G
            obtain ⟨v', f, G1, h1', h2', pf, E2⟩ := E1.take q2
            rw [h1] at h1'
            cases h1'
            have k2 : Ok S1 H1 ((g ++ f) ++ G1) := by
              rw [List.append_assoc]
              exact k1.perm (List.Perm.append_left _ pf)
            refine ho S1 H1 pv v f xs vs g z pv' Q h2' hx k2.head q3 fun w H' S' h f' st hw hr ok' => ?_
            have k3 : Ok S1 H1 (G1 ++ (g ++ f)) := k2.perm List.perm_append_comm
            have E3 : EnvRp X.K S' H' σ (Vs.put (now o ρ) i none) G1 := E2.step st k2.head fun b hb z => k2.apart b z hb
            have k4 : Ok S' H' (G1 ++ (h ++ f')) := Ok.join st k3 ok'
            have p5 : (G1 ++ (h ++ f')).Perm (h ++ (f' ++ G1)) := by
              refine List.perm_append_comm.trans ?_
              rw [List.append_assoc]
            refine G w S' (f' ++ G1) H' h ?_ hw (E3.back h1 hr) (k4.perm p5)
            refine t1.step.trans (st.wide (fun b hb => ?_) fun b hb => ?_)
            · rcases List.mem_append.mp hb with z | z
              · exact List.mem_append_left _ z
              · exact List.mem_append_right _ (pf.mem_iff.mpr (List.mem_append_left _ z))
            · rcases List.mem_append.mp (p5.mem_iff.mpr hb) with z | z
              · exact .inr (List.mem_append_right _ (pf.mem_iff.mpr (List.mem_append_right _ z)))
              · exact .inl z
    | _ => exact G.elim
end
end Vs
set_option maxHeartbeats 4000000
/-! Vs: stores, methods that change nothing, comprehensions, calls by keyword. -/
namespace Vs
open PySem PySem.Spec PyProof.Rows L2
section
variable {K : PySem.W.Frag} {S S' : Addr → Prop} {H : Hp}
theorem VOk.nil_int {b : Bool} {m : Nat} {i : Int} {v : V} {f : List Addr} (h : VOk K S H ⟨b, m, .int i⟩ v f) : f = [] := by
  unfold VOk at h
  split at h
  · exact h.1
  · exact (h.imm rfl).1
theorem nix_lt {n : Nat} {i : Int} {j : Nat} (h : nix n i = some j) : j < n := by
  unfold nix at h
  split at h
  · split at h
    · obtain rfl := Option.some.inj h; omega
    · cases h
  · split at h
    · obtain rfl := Option.some.inj h; omega
    · cases h
/-- an item is put into a list of a slot -/
theorem set_ok {a : Addr} {f f0 : List Addr} {xs : List V} {l : List D} {m n j : Nat} {v : V} {d : D} (ha : H a = some (.lst xs)) (ok : Ok S H (f ++ (a :: f0))) (r : RpAll K S H m xs l f0) (h : Rp K S H n v d f) (hj : j < l.length) :
    ∃ S' ff, Step S (f ++ (a :: f0)) H S' (a :: ff) (upd H a (.lst (xs.set j v))) ∧ Rp K S' (upd H a (.lst (xs.set j v))) ((if d.imm = true then m else min m n) + 1) (.ref a) (.lst (l.set j d)) (a :: ff) ∧ Ok S' (upd H a (.lst (xs.set j v))) (a :: ff) := by
  obtain ⟨ff, gg, fx, p, r1, r2⟩ := r.meet h
  obtain ⟨u, g1, g, g2, p1, rfl, p3, p4, _⟩ := r1.at (List.getElem?_eq_getElem hj)
  have r3 := p4 v d gg r2
  have pp : (f ++ (a :: f0)).Perm (([] ++ (a :: (g1 ++ gg ++ g2))) ++ (g ++ fx)) := by
    refine List.perm_append_comm.trans ?_
    refine List.Perm.cons a (p.trans ?_)
    show (((g1 ++ g ++ g2) ++ gg) ++ fx).Perm ((g1 ++ gg ++ g2) ++ (g ++ fx))
    rw [← List.append_assoc]
    refine List.Perm.append_right _ ?_
    rw [List.append_assoc, List.append_assoc, List.append_assoc, List.append_assoc]
    refine List.Perm.append_left _ ?_
    exact List.perm_append_comm.trans (by
      rw [List.append_assoc]
      exact (List.perm_append_comm).trans (by rw [List.append_assoc]; exact List.Perm.append_left _ List.perm_append_comm))
  obtain ⟨w1, w2, w3⟩ := write_ok (h := []) ha ok pp (r3.more fun b hb => hb.imp id fun z => List.mem_append_right _ z)
  exact ⟨_, _, w1, w2, w3⟩
end
section
variable {ct : Str → Addr} {lent : List Bool} {X : Cx} {a b c e : Expr} {es : List Expr} {ga gb gc ge : M} {gs : MA} {pos p : Pos}
theorem sg_set {i : Nat} {x : Str} (hb : SE ct X b gb) (hN : X.N[i]? = some x := by rfl) (hv : Vis X.env.scope x := by first | exact Or.inl rfl | exact Or.inr (Or.inl rfl) | exact Or.inr (Or.inr rfl)) (hd : (x == ("__debug__" : Str)) = false := by decide)
    (hcd : (x == ("__classdict__" : Str)) = false := by decide)
    (ha : ∀ v, assign (.Subscript (.Name x p) b pos) X.env v = (do
      let ov ← holding [v] (eval (.Name x p) X.env)
      let iv ← holding [v, ov] (eval b X.env)
      standAt pos
      holding [v, ov, iv] (setItem ov iv v)
      release [v, ov, iv] []) := by intro _; rfl) : SG ct lent X (.Subscript (.Name x p) b pos) (gset i gb) := by
  refine ⟨fun W tk => ?_⟩
  obtain ⟨tb, pb, rb⟩ := hb.run W tk
  refine ⟨_, pg_sub (pv i hN hv hd hcd) pb set_list ha, fun S F H σ ρ xx v f D Q h E ok q G => ?_⟩
  unfold gset at G
  cases q0 : look ρ i with
  | none => rw [q0] at G; exact G.elim
  | some pv0 =>
    obtain ⟨m0, d0⟩ := pv0
    obtain ⟨v0, f0', G0, h1, hz0⟩ := E.take q0
    refine ⟨v0, h1, rb S F H σ ρ _ E ok.tail ?_⟩
    rw [q0] at G
    cases qb : gb ρ with
    | no => rw [qb] at G; exact G
    | ex ee ρ1 =>
      rw [qb] at G
      exact fun C d S' F' H' st E' o' hx => G C d σ S' F' H' (st.wide (fun b hb => List.mem_append_right _ hb) fun b hb => .inl hb) E' o' Kp.refl hx
    | ok y o =>
      rw [qb] at G
      intro w S1 F1 H1 g t1 hy E1 k1
      replace G : GoodS X.K ct lent W D S (f ++ F) H σ (match look (now o ρ) i, y.d with
        | some (m + 1, .lst l), .int k => if xx.stable = true then (match nix l.length k with
            | some j => .nx (Vs.put (now o ρ) i (some ((if xx.d.imm = true then m else min m xx.m) + 1, .lst (l.set j xx.d))))
            | none => .no) else .no
        | _, _ => .no) := G
      split at G
      · rename_i _ m l k ql qk
        by_cases hs : xx.stable = true
        · rw [if_pos hs] at G
          cases qn : nix l.length k with
          | none => rw [qn] at G; exact G.elim
          | some j =>
            rw [qn] at G
            obtain ⟨yb, ym, yd⟩ := y
            obtain rfl : yd = .int k := qk
            obtain rfl := hy.int'
            obtain rfl := hy.nil_int
            have hx := (h.step (t1.step.less fun b hb => hb) ok.tail ok.apart hs).stab hs
            obtain ⟨v1, f1, G1, h1', h2, pf, E2⟩ := E1.take ql
            rw [h1] at h1'
            cases h1'
            have k1 : Ok S1 H1 F1 := k1
            have st1 : Step S F H S1 F1 H1 := t1.step
            cases h2 with
            | lst1 ha r =>
              rename_i aa zs ff0
              have k2 : Ok S1 H1 (f ++ ((aa :: ff0) ++ G1)) := (Ok.join st1 ok k1).perm (List.Perm.append_left _ pf)
              have k3 : Ok S1 H1 ((f ++ (aa :: ff0)) ++ G1) := by rw [List.append_assoc]; exact k2
              have hj : ixN zs.length k = some j := by rw [r.length]; exact qn
              obtain ⟨S2, ff, w1, w2, w3⟩ := set_ok ha k3.head r hx (nix_lt qn)
              refine ⟨aa, zs, k, j, rfl, rfl, ha, hj, q _ _ ?_⟩
              have E3 : EnvRp X.K S2 _ σ (Vs.put (now o ρ) i none) G1 := E2.step w1 k3.head fun b hb z => k3.apart b z hb
              have k4 : Ok S2 _ (G1 ++ (aa :: ff)) := Ok.join w1 (k3.perm List.perm_append_comm) w3
              have st2 : Step S (f ++ F) H S1 (f ++ F1) H1 := st1.wide (fun b hb => List.mem_append_right _ hb) fun b hb => (List.mem_append.mp hb).elim (fun z => .inr (List.mem_append_left _ z)) .inl
              refine G σ S2 ((aa :: ff) ++ G1) _ (st2.trans (w1.wide (fun b hb => ?_) fun b hb => ?_)) (E3.back h1 w2) (k4.perm List.perm_append_comm) Kp.refl
              · rcases List.mem_append.mp hb with z | z
                · exact List.mem_append_left _ z
                · exact List.mem_append_right _ (pf.mem_iff.mpr (List.mem_append_left _ z))
              · rcases List.mem_append.mp hb with z | z
                · exact .inl z
                · exact .inr (List.mem_append_right _ (pf.mem_iff.mpr (List.mem_append_right _ z)))
        · rw [if_neg hs] at G
          exact G.elim
      · exact G.elim
/-! ### comprehensions -/
section
variable {elt tg iter : Expr} {ifs : List Expr} {scope : Scope} {own : List (Str × Nat)} {gi : MI} {gg : MG} {gt : MT}
theorem s_comp (hc : X.calm = true) (hN : X.N.Nodup) (hi : SI ct X tg iter gi) (ok : BlkOk X.N X.env.scope scope own)
    (hg : ∀ n i, SN ct (others n (own.map (·.2))) (blkX X scope i) tg gg) (ht : ∀ i, STs ct (blkX X scope i) ifs gt) (he : ∀ i, SE ct (blkX X scope i) elt ge) (hs : ∀ x, foldedSetIterable iter X.env x = pure x := by intro _; rfl) :
    SE ct X (.ListComp elt [⟨tg, iter, ifs, 0⟩] scope pos) (comp gi gg gt ge (own.map (·.2))) := by
  refine ⟨fun W tk => ?_⟩
  obtain ⟨wi, g, tt, te, h1, h2, h3, h4, h5⟩ := comp_run hN hi hg ht he W tk
  exact ⟨_, pe_lc hc hN h1 ok (fun s H C cl fp => h2 (s, H, C, cl, fp)) (fun s H C cl fp => h3 (s, H, C, cl, fp)) (fun s H C cl fp => h4 (s, H, C, cl, fp)) hs, h5⟩
theorem ss_setc {i : Nat} {y : Str} {py spos : Pos} (hc : X.calm = true) (hN : X.N.Nodup) (hy : X.N[i]? = some y) (hyl : X.env.scope.names.lookup y = some .local) (hl : lent[i]? ≠ some true)
    (hsw : swapsWith (.ListComp elt [⟨tg, iter, ifs, 0⟩] scope pos) (some (.Name y py)) spos.line X.env = pure true) (hi : SI ct X tg iter gi) (ok : BlkOk X.N X.env.scope scope own)
    (hg : ∀ n i, SN ct (others n (own.map (·.2))) (blkX X scope i) tg gg) (ht : ∀ i, STs ct (blkX X scope i) ifs gt) (he : ∀ i, SE ct (blkX X scope i) elt ge) (hs : ∀ x, foldedSetIterable iter X.env x = pure x := by intro _; rfl) :
    SS ct lent X (.Assign [.Name y py] (.ListComp elt [⟨tg, iter, ifs, 0⟩] scope pos) spos) (asg (comp gi gg gt ge (own.map (·.2))) (gname i)) := by
  refine ⟨fun W tk po => ?_⟩
  obtain ⟨wi, g, tt, te, h1, h2, h3, h4, h5⟩ := comp_run hN hi hg ht he W tk
  refine ⟨_, ps_setLc hc hN hy hyl hsw h1 ok (fun s H C cl fp => h2 (s, H, C, cl, fp)) (fun s H C cl fp => h3 (s, H, C, cl, fp)) (fun s H C cl fp => h4 (s, H, C, cl, fp)) hs, fun S F H σ ρ D E okk G => ?_⟩
  obtain ⟨tn, pn, rn⟩ := (sg_name (ct := ct) (lent := lent) (X := X) (pos := py) hN hy (.inl hyl) hl (.inr hyl)).run W tk
  refine h5 S F H σ ρ _ E okk ?_
  refine good_go G fun x o v S1 F1 H1 f st h E1 ok1 G => ?_
  -- the name's store
  unfold gname at G
  cases e : x.kept with
  | none => rw [e] at G; exact G.elim
  | some pv =>
    rw [e] at G
    obtain ⟨hs', rfl⟩ := kept_some e
    obtain ⟨f0, G0, p, E0⟩ := E1.drop i
    have p2 : (f ++ F1).Perm (f0 ++ (f ++ G0)) := (List.Perm.append_left _ p).trans perm_mid
    have ok2 : Ok S1 H1 (f ++ G0) := (ok1.perm p2).tail
    show D.nx (σ.set i (some v)) H1
    by_cases hl2 : i < σ.length
    · exact G _ S1 (f ++ G0) H1 (st.less fun b hb => p2.mem_iff.mpr (List.mem_append_right _ hb)) (E0.fill hl2 (h.stab hs')) ok2 (Kp.set hl)
    · have e1 : σ.set i (some v) = σ := List.set_eq_of_length_le (by omega)
      have e2 : Vs.put (now o ρ) i (some (x.m, x.d)) = now o ρ := put_over _ _ _ (by rw [← E1.len]; omega)
      replace G : GoodS X.K ct lent W D S F H σ (.nx (Vs.put (now o ρ) i (some (x.m, x.d)))) := G
      rw [e2] at G
      rw [e1]
      exact G σ S1 F1 H1 (st.less fun b hb => List.mem_append_right _ hb) E1 ok1.tail Kp.refl
end
end
end Vs
set_option maxHeartbeats 4000000
/-! Vs: calls by keyword; what tests of kinds, slices, chains come to. -/
namespace Vs
open PySem PySem.Spec PyProof.Rows L2
theorem RpAll.rev0 {K : PySem.W.Frag} {S : Addr → Prop} {H : Hp} : ∀ {v : List V} {d : List D} {f : List Addr}, RpAll K S H 0 v d f → RpAll K S H 0 v.reverse d.reverse []
  | _, _, _, .nil _ => .nil _
  | _, _, _, .cons h r => by
    obtain rfl := h.own0
    rw [List.reverse_cons, List.reverse_cons]
    exact RpAll.append (f := []) (g := []) (RpAll.rev0 r) (.cons (f := []) (g := []) h (.nil _))
section
variable {ct : Str → Addr} {lent : List Bool} {X : Cx} {a b c e : Expr} {es : List Expr} {ga gb gc ge : M} {gs : MA} {pos p : Pos}
/-! ### methods that change nothing -/
def Meth1 (K : PySem.W.Frag) (r : V → List V → Hp → VK → Prop) (k : VV → List VV → Option VV) : Prop :=
  ∀ S H x v f xs vs g z Q, VOk K S H x v f → VsOk K S H xs vs g → Ok S H (f ++ g) → k x xs = some z →
    (∀ w H' S' h, Grow S H (f ++ g) S' h H' → VOk K S' H' z w h → Ok S' H' h → Q w H') → r v vs H Q
theorem s_methL {r : V → List V → Hp → VK → Prop} {k : VV → List VV → Option VV} (ho : Meth1 X.K r k) (ha : SE ct X a ga) (hb : SA ct X es gs)
    (mk : ∀ {to t}, PE X a to → PA X es t → PE X e (tBM X.K "list" r to t)) : SE ct X e (meth isL ga gs k) := by
  refine ⟨fun W tk => ?_⟩
  obtain ⟨ta, pa, ra⟩ := ha.run W tk
  obtain ⟨tb, pb, rb⟩ := hb.run W tk
  refine ⟨_, mk pa pb, fun S F H σ ρ Q E ok G => ra S F H σ ρ _ E ok ?_⟩
  unfold meth at G
  refine good_bind G fun x o1 v S1 F1 H1 f _ t1 h1 E1 k1 G => ?_
  by_cases hT : isL x.d = true
  · rw [if_pos hT] at G
    refine ⟨?_, ?_⟩
    · cases q : x.d with
      | lst ds =>
        obtain ⟨a, xs, m, g, rfl, q1, _⟩ := h1.seqL q
        exact .inl ⟨rfl, xs, q1⟩
      | _ => rw [q] at hT; cases hT
    · refine rb S1 F1 H1 σ _ _ E1 k1.tail ?_
      cases qb : gs (now o1 ρ) with
      | no => rw [qb] at G; exact G
      | ex x ρ1 =>
        rw [qb] at G
        intro C d S2 F2 H2 st E2 k2 hx
        exact G C d S2 F2 H2 ((t1.step.less fun b hb => List.mem_append_right _ hb).trans st) E2 k2 hx
      | ok y o2 =>
        rw [qb, R.nxt_ok] at G
        intro u S2 F2 H2 g t2 h2 E2 k2
        split at G
        · rename_i hs
          have k3 : Ok S2 H2 ((f ++ g) ++ F2) := Fit.both k1 t2 k2
          have h1' : VOk X.K S2 H2 x v f := by
            cases o2 with
            | none =>
              obtain ⟨e, w1, _, rfl, _⟩ := t2
              exact (h1.same e).more w1
            | some _ => exact h1.step (t2.step.less fun b hb => hb) k1.tail k1.apart (by simpa using hs)
          have ea : ((R.ofO (k x y)).aft o2).aft o1 = (R.ofO (k x y)).aft (Vs.thn o1 o2) := aft_aft _ _ _
          rw [ea] at G
          refine fin_rule (g := f ++ g) (F2 := F2) (S2 := S2) (t := fun Q => r v u H2 Q) (t1.thn k1 t2 (fun b hb => by rw [List.mem_append] at hb; exact hb.imp id .inl) (Same.refl _)) ?_ k3 (fun z hz Q hq => ?_) G
          · rw [now_thn]
            exact E2
          · exact ho S2 H2 x v f y u g z Q h1' h2 k3.head hz hq
        · exact G.elim
  · rw [if_neg hT] at G
    exact G.elim
theorem kCount_mt : Meth1 X.K (rCntI X.K) kCount := fun S H x v f xs vs g z Q h hx ok e hQ => by
  unfold kCount at e
  split at e
  · rename_i l b m i el
    cases q : intsOf l with
    | none => rw [q] at e; cases e
    | some ns =>
      rw [q] at e
      obtain rfl := Option.some.inj e
      obtain ⟨a, ys, m', g', rfl, q1, q2⟩ := h.seqL el
      obtain ⟨y, rfl, hy⟩ := hx.one
      obtain rfl := hy.int'
      exact ⟨a, ns, i, rfl, rfl, by have z := (RpAll.of_intsOf q2 q).1; rw [← z]; exact q1, ret_imm ok rfl (.int _ _) hQ⟩
  · cases e
theorem kIndex_mt : Meth1 X.K (rIndexD X.K) kIndex := fun S H x v f xs vs g z Q h hx ok e hQ => by
  unfold kIndex at e
  split at e
  · rename_i l y el
    split at e
    · rename_i c
      split at e
      · rename_i j hj
        obtain rfl := Option.some.inj e
        obtain ⟨u, rfl, hy⟩ := hx.one
        have q := h.dp c.1
        have s := (shp_flat c.1).2
        obtain ⟨a, ys, m', g', rfl, q1, q2⟩ := h.seqL el
        rw [el, D.py, pyAll_eq] at q s
        obtain ⟨h1, h2, h3⟩ := List.findIdx?_eq_some_iff_getElem.mp hj
        refine ⟨a, u, y.d.py, l.map D.py, j, l[j].py, rfl, rfl, q, hy.dp c.2, s, (shp_flat c.2).2, ?_, h2, fun m z' hm hz' => ?_, ret_imm ok rfl (.int _ _) hQ⟩
        · rw [List.getElem?_map, List.getElem?_eq_getElem h1]; rfl
        · have hml : m < l.length := by omega
          rw [List.getElem?_map, List.getElem?_eq_getElem hml] at hz'
          obtain rfl := Option.some.inj hz'
          have := h3 m hm
          simpa [D.eqv] using this
      · cases e
    · cases e
  · cases e
/-! ### xs[::-1], xs[a:b], a op b op c -/
theorem kRev_op : Op1 X.K (fun x H Q => ∃ a xs, x = .ref a ∧ SqL X.K H a xs ∧ ∀ p, H p = none → Q (.ref p) (upd H p (.lst xs.reverse))) kRev := fun S H x v f z Q h ok e hQ => by
  unfold kRev at e
  split at e
  · rename_i l el
    split at e
    · rename_i c
      obtain rfl := Option.some.inj e
      obtain ⟨b1, m1, d1⟩ := x
      obtain rfl : d1 = .lst l := el
      obtain ⟨a, xs, S1, rfl, q1, u1, u2, r1, k1⟩ := opn (F := []) h (by rw [List.append_nil]; exact ok) c
      have rv := r1.rev0
      exact ⟨a, xs, rfl, q1, fun p hp => ret_lst ok u1 u2 k1 (by simp) rv hQ p hp⟩
    · cases e
  · cases e
theorem s_rev {k : Nat} {p1 p2 p3 : Pos} (ha : SE ct X a ga) : SE ct X (.Subscript a (.Slice none none (some (.UnaryOp .USub (.Constant (.int 1) k p1) p2)) p3) pos) (one ga kRev) := run_one ha (fun pa => pe_revL pa) kRev_op
/-- a slice's ends -/
structure SO (ct : Str → Addr) (X : Cx) (o : Option Expr) (g : Vs.Env → R (Option Int)) : Prop where
  run : ∀ W, Takes X W → ∃ t, PO X o t ∧ ∀ S F H σ ρ Q, EnvRp X.K S H σ ρ F → Ok S H F → Good X.K ct (fun _ _ (a b : Option Int) f => a = b ∧ f = []) W S F H σ ρ (g ρ) Q → t σ H Q
theorem so_none : SO ct X none (part none) := ⟨fun W tk => ⟨_, po_none, fun S F H σ ρ Q E ok G => G none S F H [] Fit.nil ⟨rfl, rfl⟩ E ok⟩⟩
theorem so_some (ha : SE ct X a ga) : SO ct X (some a) (part (some ga)) := by
  refine ⟨fun W tk => ?_⟩
  obtain ⟨ta, pa, ra⟩ := ha.run W tk
  refine ⟨_, po_some pa, fun S F H σ ρ Q E ok G => ra S F H σ ρ _ E ok ?_⟩
  unfold part at G
  refine good_bind G fun x o v S1 F1 H1 f _ t1 h1 E1 k1 G => ?_
  obtain ⟨b, m, d⟩ := x
  cases d with
  | int i =>
    obtain rfl := h1.int'
    obtain rfl := h1.nil_int
    exact ⟨i, rfl, G (some i) S1 F1 H1 [] (by rw [thn_none]; exact t1) ⟨rfl, rfl⟩ E1 k1⟩
  | _ => exact G.elim
theorem six_eq (n d : Nat) (o : Option Int) : six n d o = HT.sIx n d o := by cases o <;> rfl
theorem s_slc {lo hi : Option Expr} {gl gh : Option M} {p2 : Pos} (ha : SE ct X a ga) (hl : SO ct X lo (part gl)) (hh : SO ct X hi (part gh)) : SE ct X (.Subscript a (.Slice lo hi none p2) pos) (slc ga gl gh) := by
  refine ⟨fun W tk => ?_⟩
  obtain ⟨ta, pa, ra⟩ := ha.run W tk
  obtain ⟨tl, pl, rl⟩ := hl.run W tk
  obtain ⟨th, ph, rh⟩ := hh.run W tk
  refine ⟨_, pe_slice sl_list pa pl ph, fun S F H σ ρ Q E ok G => ra S F H σ ρ _ E ok ?_⟩
  unfold slc at G
  refine good_bind G fun x o1 v S1 F1 H1 f _ t1 h1 E1 k1 G => ?_
  refine rl S1 F1 H1 σ _ _ E1 k1.tail ?_
  have none_of : ∀ {β : Type} {r : R (Option Int)} {kk : Option Int → R β}, (∃ a o, r = .ok a (some o)) → (r.nxt false kk) = .no := by
    rintro β r kk ⟨a, o, rfl⟩
    rfl
  cases ql : part gl (now o1 ρ) with
  | no => rw [ql] at G; exact G
  | ex x ρ1 =>
    rw [ql] at G
    intro C d S2 F2 H2 st E2 k2 hx
    exact G C d S2 F2 H2 ((t1.step.less fun b hb => List.mem_append_right _ hb).trans st) E2 k2 hx
  | ok l ol =>
    rw [ql] at G
    cases ol with
    | some _ => exact G.elim
    | none =>
      intro l' S2 F2 H2 f2 t2 hl2 E2 k2
      obtain ⟨rfl, rfl⟩ := hl2
      obtain ⟨e2, w2, w2', rfl, _⟩ := id t2
      have h2 := (h1.same e2).more w2
      have k2' : Ok S2 H2 (f ++ F2) := Ok.join (t2.step.less fun b hb => hb) k1 k2
      refine rh S2 F2 H2 σ _ _ E2 k2 ?_
      replace G : Good X.K ct (VOk X.K) W S F H σ ρ ((((part gh (now o1 ρ)).nxt false fun u => .ofO (kSl x l u)).aft none).aft o1) Q := G
      rw [R.aft_none] at G
      show Good X.K ct _ W S2 F2 H2 σ (now o1 ρ) (part gh (now o1 ρ)) _
      cases qh : part gh (now o1 ρ) with
      | no => rw [qh] at G; exact G
      | ex x ρ1 =>
        rw [qh] at G
        intro C d S3 F3 H3 st E3 k3 hx
        exact G C d S3 F3 H3 ((t1.step.less fun b hb => List.mem_append_right _ hb).trans (t2.step.trans st)) E3 k3 hx
      | ok u oh =>
        rw [qh] at G
        cases oh with
        | some _ => exact G.elim
        | none =>
          intro u' S3 F3 H3 f3 t3 hl3 E3 k3
          obtain ⟨rfl, rfl⟩ := hl3
          obtain ⟨e3, w3, w3', rfl, _⟩ := id t3
          have h3 := (h2.same e3).more w3
          have k3' : Ok S3 H3 (f ++ F3) := Ok.join (t3.step.less fun b hb => hb) k2' k3
          replace G : Good X.K ct (VOk X.K) W S F H σ ρ ((R.ofO (kSl x l u)).aft o1) Q := by
            have e : (((R.ok u none : R (Option Int)).nxt false fun u => R.ofO (kSl x l u))).aft o1 = (R.ofO (kSl x l u)).aft o1 := by
              show ((R.ofO (kSl x l u)).aft none).aft o1 = _
              rw [R.aft_none]
            rw [e] at G
            exact G
          have t13 : Fit o1 S F H S3 F3 f H3 := by
            have a1 := t1.thn k1 (o' := none) t2 (h := f) (fun b hb => .inl hb) (Same.refl _)
            have a2 := a1.thn k2' (o' := none) t3 (h := f) (fun b hb => .inl hb) (Same.refl _)
            exact a2
          refine fin_rule (g := f) (F2 := F3) (S2 := S3) (t := fun Q => rSlL X.K v l u H3 Q) t13 E3 k3' (fun z hz Q hq => ?_) G
          unfold kSl at hz
          split at hz
          · rename_i ds el
            split at hz
            · rename_i c
              obtain rfl := Option.some.inj hz
              obtain ⟨b1, m1, d1⟩ := x
              obtain rfl : d1 = .lst ds := el
              obtain ⟨a, xs, S4, rfl, q1, u1, u2, r1, k4⟩ := opn (F := []) h3 (by rw [List.append_nil]; exact k3'.head) c
              refine ⟨a, xs, rfl, q1, fun p hp => ?_⟩
              have rc : RpAll X.K S4 H3 0 (cutV xs l u) (cutD ds l u) [] := by
                unfold cutV cutD
                rw [six_eq, six_eq, r1.length]
                exact ((r1.cut0 _).2.cut0 _).1
              exact ret_lst k3'.head u1 u2 k4 (by simp) rc hq p hp
            · cases hz
          · cases hz
theorem run_chain {φ ψ : Int → Int → Bool} {Pe : TE → Prop} (ha : SE ct X a ga) (hb : SE ct X b gb) (hc : SE ct X c gc) (mk : ∀ {ta tb tc}, PE X a ta → PE X b tb → PE X c tc → Pe (tChain (rI0 fun i j => .bl (φ i j)) (rI0 fun i j => .bl (ψ i j)) ta tb tc)) :
    ∀ W, Takes X W → ∃ t, Pe t ∧ ∀ S F H σ ρ Q, EnvRp X.K S H σ ρ F → Ok S H F → Good X.K ct (VOk X.K) W S F H σ ρ (chain ga gb gc φ ψ ρ) Q → t σ H Q := by
  intro W tk
  obtain ⟨ta, pa, ra⟩ := ha.run W tk
  obtain ⟨tb, pb, rb⟩ := hb.run W tk
  obtain ⟨tc, pc, rc⟩ := hc.run W tk
  refine ⟨_, mk pa pb pc, fun S F H σ ρ Q E ok G => ra S F H σ ρ _ E ok ?_⟩
  unfold chain at G
  refine good_bind G fun x o1 v S1 F1 H1 f _ t1 h1 E1 k1 G => ?_
  replace G := good_after t1 k1 G
  refine rb S1 F1 H1 σ _ _ E1 k1.tail ?_
  have fix : ∀ {m : Nat} {r : R VV} {ρ'' : Vs.Env}, Good X.K ct (VOk X.K) W S1 F1 H1 σ ρ'' r Q → Good X.K ct (VOk X.K) W S1 F1 H1 σ ρ'' r Q := fun h => h
  refine good_bind G fun y o2 u S2 F2 H2 g _ t2 h2 E2 k2 G => ?_
  replace G := good_after t2 k2 G
  split at G
  · rename_i i j e1 e2
    obtain rfl := h1.int e1
    obtain rfl := h2.int e2
    refine ⟨i, j, rfl, rfl, φ i j, rfl, ?_⟩
    by_cases hφ : φ i j = true
    · rw [if_pos hφ] at G ⊢
      refine rc S2 F2 H2 σ _ _ E2 k2.tail ?_
      refine good_bind G fun w o3 z S3 F3 H3 h _ t3 h3 E3 k3 G => ?_
      replace G := good_after t3 k3 G
      split at G
      · rename_i k e3
        obtain rfl := h3.int e3
        exact ⟨j, k, rfl, rfl, G (.bl (ψ j k)) S3 F3 H3 [] Fit.nil (by rw [VOk.own]; exact .bl _ _) E3 k3.tail⟩
      · exact G.elim
    · rw [if_neg hφ] at G ⊢
      have : φ i j = false := by simpa using hφ
      exact G (.bl false) S2 F2 H2 [] Fit.nil (by rw [VOk.own]; exact .bl _ _) E2 k2.tail
  · exact G.elim
theorem s_chain {op op' : CmpOp} {φ ψ : Int → Int → Bool} (ho : OpR X (compareOp op) (rI0 fun i j => .bl (φ i j))) (ho' : OpR X (compareOp op') (rI0 fun i j => .bl (ψ i j))) (ha : SE ct X a ga) (hb : SE ct X b gb) (hc : SE ct X c gc)
    (hm : lastMarks [op, op'] [b, c] = false := by with_unfolding_all rfl) : SE ct X (.Compare a [op, op'] [b, c] pos) (chain ga gb gc φ ψ) := ⟨run_chain ha hb hc fun pa pb pc => pe_chain ho ho' pa pb pc hm⟩
end
end Vs
set_option maxHeartbeats 4000000
/-! Vs: list(range(..)), isinstance, calls by keyword. -/
namespace Vs
open PySem PySem.Spec PyProof.Rows L2
section
variable {ct : Str → Addr} {lent : List Bool} {X : Cx} {a b c e : Expr} {es : List Expr} {ga gb gc ge : M} {gs : MA} {pos p : Pos}
theorem rng_rp {K : PySem.W.Frag} {S : Addr → Prop} {H : Hp} (lo hi : Int) : RpAll K S H 0 (rgV lo hi) (rng lo hi) [] := by
  unfold rgV rng
  generalize List.range (hi - lo).toNat = l
  induction l with
  | nil => exact .nil _
  | cons i l ih => exact .cons (f := []) (g := []) (.int _ _) ih
theorem kRange_op : Op1 X.K (fun x H Q => ∃ n, x = V.int n ∧ RgOk 0 n ∧ ∀ q, H q = none → Q (.ref q) (upd H q (.lst (rgV 0 n)))) (fun x => kRange [x]) := fun S H x v f z Q h ok e hQ => by
  obtain ⟨b, m, d⟩ := x
  cases d with
  | int j =>
    replace e : (if -(2 ^ 62) ≤ j ∧ j ≤ 16777216 then some (⟨false, 1, .lst (rng 0 j)⟩ : VV) else none) = some z := e
    split at e
    · rename_i c
      obtain rfl := Option.some.inj e
      obtain rfl := h.int'
      exact ⟨j, rfl, ⟨by omega, by omega, by omega, by omega, by omega⟩, fun q hq => ret_lst ok (fun _ z => z) (fun _ => .inl) ok.nil (by simp) (rng_rp 0 j) hQ q hq⟩
    · cases e
  | _ => cases e
theorem s_listRg {p1 pos1 : Pos} (hc : X.calm = true) (hg : Gl X "list") (hm : X.mg "list" = none) (hg' : Gl X "range") (hm' : X.mg "range" = none) (ha : SE ct X a ga) (na : starEach [a] X.env = (false, eval a X.env) :: starEach [] X.env := by rfl)
    (na' : starEach [.Call (.Name "range" p1) [a] [] pos1] X.env = (false, eval (.Call (.Name "range" p1) [a] [] pos1) X.env) :: starEach [] X.env := by rfl) : SE ct X (.Call (.Name "list" p) [.Call (.Name "range" p1) [a] [] pos1] [] pos) (one ga fun x => kRange [x]) :=
  run_one ha (fun pa => pe_listRg hc hg hm (prg_1 hg' hm' pa na) na') kRange_op
/-! ### isinstance -/
theorem Rp.tyx {K : PySem.W.Frag} {S : Addr → Prop} {H : Hp} {m : Nat} {v : V} {d : D} {f : List Addr} (h : Rp K S H m v d f) (hd : ∀ c l, d ≠ .ins c l) : ∃ n, TyX K H v (.type n) ∧ ∀ t r, d.isTy t = some r → kitB n (Ty.nm t) = some r := by
  have rdl : ∀ {a : Addr} {xs : List V}, Rd H a (.lst xs) → TyX K H (.ref a) (.type "list") := fun h => h.elim (fun h => .base (.lst h)) fun ⟨o, h⟩ => .base (.frz h)
  have rdt : ∀ {a : Addr} {xs : List V}, SqT K H a xs → TyX K H (.ref a) (.type "tuple") := fun h => by
    rcases h with (h | ⟨o, h⟩) | h
    · exact .base (.tup h)
    · exact .fTuple h
    · obtain ⟨o, _, _, hk, hc, _⟩ := h
      exact .kTuple hk hc
  have rdd : ∀ {a : Addr} {xs : List (Key × V)}, Rd H a (.dK xs) → TyX K H (.ref a) (.type "dict") := fun h => h.elim (fun h => .base (.dK h)) fun ⟨o, h⟩ => .fDict h
  cases h with
  | non => exact ⟨"NoneType", .base .non, fun t r e => by cases t <;> (cases e; decide +kernel)⟩
  | bl => exact ⟨"bool", .base (.bl _), fun t r e => by cases t <;> (cases e; decide +kernel)⟩
  | int => exact ⟨"int", .base (.int _), fun t r e => by cases t <;> (cases e; decide +kernel)⟩
  | str => exact ⟨"str", .base (.str _), fun t r e => by cases t <;> (cases e; decide +kernel)⟩
  | lst0 h _ _ => exact ⟨"list", rdl h, fun t r e => by cases t <;> (cases e; decide +kernel)⟩
  | lstK h _ =>
    refine ⟨"list", ?_, fun t r e => by cases t <;> (cases e; decide +kernel)⟩
    rcases h with (h | ⟨o, h⟩) | h
    · cases h
    · cases h
    · obtain ⟨o, _, _, hk, hc, _⟩ := h
      exact .kList hk hc
  | lst1 h _ => exact ⟨"list", rdl (.inl h), fun t r e => by cases t <;> (cases e; decide +kernel)⟩
  | tup0 h _ => exact ⟨"tuple", rdt (.inl (.inl h)), fun t r e => by cases t <;> (cases e; decide +kernel)⟩
  | tup1 h _ => exact ⟨"tuple", rdt (.inl (.inl h)), fun t r e => by cases t <;> (cases e; decide +kernel)⟩
  | dk0 h _ _ => exact ⟨"dict", rdd h, fun t r e => by cases t <;> (cases e; decide +kernel)⟩
  | dk1 h _ => exact ⟨"dict", rdd (.inl h), fun t r e => by cases t <;> (cases e; decide +kernel)⟩
  | dt0 h _ _ => exact ⟨"dict", .base (.dT h), fun t r e => by cases t <;> (cases e; decide +kernel)⟩
  | dt1 h _ => exact ⟨"dict", .base (.dT h), fun t r e => by cases t <;> (cases e; decide +kernel)⟩
  | ob0 => exact absurd rfl (hd _ _)
  | ob1 => exact absurd rfl (hd _ _)
  | exn0 => exact absurd rfl (hd _ _)
  | anyR => exact absurd rfl (hd _ _)
  | exn1 => exact absurd rfl (hd _ _)
  | gx0 => exact absurd rfl (hd _ _)
  | gx1 => exact absurd rfl (hd _ _)
  | xd0 => exact absurd rfl (hd _ _)
theorem kIsi_op (t : Ty) : Op1 X.K (fun x H Q => rIsi X.K [x, .ty (Ty.nm t)] H Q) (kIsi t) := fun S H x v f z Q h ok e hQ => by
  unfold kIsi at e
  cases q : x.d.isTy t with
  | none => rw [q] at e; cases e
  | some r =>
    rw [q] at e
    obtain rfl := Option.some.inj e
    obtain ⟨g, h'⟩ := h.rp
    obtain ⟨n, h1, h2⟩ := h'.tyx (fun c l z => by rw [z] at q; cases q)
    exact ⟨v, _, _, _, r, rfl, .ty _, h1, kit_ty (h2 t r q), ret_imm ok rfl (.bl _ _) hQ⟩
theorem s_isi (t : Ty) {y : Str} {p1 : Pos} (hg : Gl X "isinstance") (hm : X.mg "isinstance" = none) (hg' : Gl X y) (hm' : X.mg y = none) (hv : bootBuiltins y = some (.type (Ty.nm t))) (hn : y ≠ "__name__") (hd : (y == ("__debug__" : Str)) = false) (ha : SE ct X a ga)
    (he : starEach (a :: [.Name y p1]) X.env = (false, eval a X.env) :: starEach [.Name y p1] X.env := by rfl) (he' : starEach [.Name y p1] X.env = (false, eval (.Name y p1) X.env) :: starEach [] X.env := by rfl)
    (hpl : (backTo pos (starEach [.Name y p1] X.env)).any (·.1) = false := by rfl) : SE ct X (.Call (.Name "isinstance" p) [a, .Name y p1] [] pos) (one ga (kIsi t)) :=
  run_one ha (fun pa => pe_callB call_isi hg hm PyProof.Rows.boot_isinstance (pa_cons pa (pa_cons (pe_bltn hg' hm' hv (by rfl) hn hd) pa_nil he') he) (by decide) (by decide) he hpl) (kIsi_op t)
/-! ### calls by keyword -/
structure SK (ct : Str → Addr) (X : Cx) (es : List Expr) (kws : List Keyword) (g : Vs.Env → R (List AV)) : Prop where
  run : ∀ W, Takes X W → ∃ t tk, PA X es t ∧ PK X kws tk ∧ ∀ S F H σ ρ Q, EnvRp X.K S H σ ρ F → Ok S H F → Good X.K ct (AvOk X.K σ) W S F H σ ρ (g ρ) Q → t σ H fun vs H1 => tk σ H1 fun zs H2 => zs.length = kws.length ∧ Q (vs ++ zs) H2
section
variable {kws : List Keyword} {as : List AK} {nm : Option Str} {kpos : Pos}
theorem ca_lend {i : Nat} {r : L2.St → Hp → (List V → Hp → Prop) → Prop} {W : WX} (hr : ∀ S F H σ ρ Q, EnvRp X.K S H σ ρ F → Ok S H F → Good X.K ct (AvOk X.K σ) W S F H σ ρ (cargs as ρ) Q → r σ H Q)
    (S F H) (σ : L2.St) (ρ) (Q : List V → Hp → Prop) (E : EnvRp X.K S H σ ρ F) (ok : Ok S H F) (G : Good X.K ct (AvOk X.K σ) W S F H σ ρ (cargs (.lend i :: as) ρ) Q) : ∃ v, σ[i]? = some (some v) ∧ r σ H fun vs H1 => Q (v :: vs) H1 := by
  unfold cargs at G
  cases q : look ρ i with
  | none => rw [q] at G; exact G.elim
  | some pv =>
    obtain ⟨m, d⟩ := pv
    rw [q] at G
    obtain ⟨v, f, G', h1, _⟩ := E.take q
    refine ⟨v, h1, hr S F H σ ρ _ E ok ?_⟩
    refine good_bind G fun a o y S1 F1 H1 f _ t1 hr E1 k1 G => ?_
    exact G (v :: y) S1 F1 H1 f (by rw [thn_none]; exact t1) (.l h1 hr) E1 k1
theorem ca_val {ta : TE} {r : L2.St → Hp → (List V → Hp → Prop) → Prop} {W : WX} (ra : ∀ S F H σ ρ Q, EnvRp X.K S H σ ρ F → Ok S H F → Good X.K ct (VOk X.K) W S F H σ ρ (ge ρ) Q → ta σ H Q)
    (hr : ∀ S F H σ ρ Q, EnvRp X.K S H σ ρ F → Ok S H F → Good X.K ct (AvOk X.K σ) W S F H σ ρ (cargs as ρ) Q → r σ H Q)
    (S F H) (σ : L2.St) (ρ) (Q : List V → Hp → Prop) (E : EnvRp X.K S H σ ρ F) (ok : Ok S H F) (G : Good X.K ct (AvOk X.K σ) W S F H σ ρ (cargs (.val ge :: as) ρ) Q) : ta σ H fun v H1 => r σ H1 fun vs H2 => Q (v :: vs) H2 := by
  refine ra S F H σ ρ _ E ok ?_
  unfold cargs at G
  refine good_bind G fun x o v S1 F1 H1 f _ t1 h1 E1 k1 G => ?_
  cases q : x.kept with
  | none => rw [q] at G; exact G.elim
  | some pv =>
    rw [q] at G
    obtain ⟨hs, rfl⟩ := kept_some q
    refine hr S1 F1 H1 σ _ _ E1 k1.tail ?_
    cases qb : cargs as (now o ρ) with
    | no => rw [qb] at G; exact G
    | ex x ρ1 =>
      rw [qb] at G
      intro C d S2 F2 H2 st E2 k2 hx
      exact G C d S2 F2 H2 ((t1.step.less fun b hb => List.mem_append_right _ hb).trans st) E2 k2 hx
    | ok y o2 =>
      rw [qb] at G
      intro u S2 F2 H2 g t2 h2 E2 k2
      have k3 : Ok S2 H2 ((f ++ g) ++ F2) := Fit.both k1 t2 k2
      refine G (v :: u) S2 F2 H2 (f ++ g) ?_ (.o ((h1.stab hs).step t2.step k1.tail k1.apart) h2) ?_ k3
      · exact t1.thn k1 t2 (fun b hb => by rw [List.mem_append] at hb; exact hb.imp id .inl) (Same.refl _)
      · rw [thn_none, now_thn]
        exact E2
/-- the keywords' values -/
structure SKw (ct : Str → Addr) (X : Cx) (kws : List Keyword) (g : Vs.Env → R (List AV)) : Prop where
  run : ∀ W, Takes X W → ∃ tk, PK X kws tk ∧ ∀ S F H σ ρ Q, EnvRp X.K S H σ ρ F → Ok S H F → Good X.K ct (AvOk X.K σ) W S F H σ ρ (g ρ) Q → tk σ H fun zs H2 => zs.length = kws.length ∧ Q zs H2
theorem skw_nil : SKw ct X [] (cargs []) := ⟨fun W tk => ⟨_, pk_nil, fun S F H σ ρ Q E ok G => ⟨rfl, G [] S F H [] Fit.nil .nil E ok⟩⟩⟩
theorem len_more {v : V} {n : Nat} {Q : List V → Hp → Prop} : (fun zs H' => (v :: zs).length = n + 1 ∧ Q (v :: zs) H') = (fun (zs : List V) H' => zs.length = n ∧ Q (v :: zs) H') := by
  funext zs H'
  rw [List.length_cons, Nat.add_right_cancel_iff]
theorem skw_lend (i : Nat) {x : Str} {pos : Pos} (h : SKw ct X kws (cargs as)) (hN : X.N[i]? = some x := by rfl) (hv : Vis X.env.scope x := by first | exact Or.inl rfl | exact Or.inr (Or.inl rfl) | exact Or.inr (Or.inr rfl)) (hd : (x == ("__debug__" : Str)) = false := by decide)
    (hcd : (x == ("__classdict__" : Str)) = false := by decide) : SKw ct X (⟨nm, .Name x pos, kpos⟩ :: kws) (cargs (.lend i :: as)) := by
  refine ⟨fun W tk => ?_⟩
  obtain ⟨t2, p2, r⟩ := h.run W tk
  refine ⟨_, pk_cons (pv i hN hv hd hcd) p2, fun S F H σ ρ Q E ok G => ?_⟩
  obtain ⟨v, h1, h2⟩ := ca_lend (r := fun σ H Q => t2 σ H fun zs H2 => zs.length = kws.length ∧ Q zs H2) r S F H σ ρ Q E ok G
  refine ⟨v, h1, ?_⟩
  rw [← len_more] at h2
  exact h2
theorem skw_val (ha : SE ct X e ge) (h : SKw ct X kws (cargs as)) : SKw ct X (⟨nm, e, kpos⟩ :: kws) (cargs (.val ge :: as)) := by
  refine ⟨fun W tk => ?_⟩
  obtain ⟨ta, pa, ra⟩ := ha.run W tk
  obtain ⟨t2, p2, r⟩ := h.run W tk
  refine ⟨_, pk_cons pa p2, fun S F H σ ρ Q E ok G => ?_⟩
  have h2 := ca_val (r := fun σ H Q => t2 σ H fun zs H2 => zs.length = kws.length ∧ Q zs H2) ra r S F H σ ρ Q E ok G
  have e : (fun v H1 => (fun σ H Q => t2 σ H fun zs H2 => zs.length = kws.length ∧ Q zs H2) σ H1 fun vs H2 => Q (v :: vs) H2) = fun v H1 => t2 σ H1 fun zs H2 => (v :: zs).length = kws.length + 1 ∧ Q (v :: zs) H2 := by
    funext v H1
    rw [len_more]
  rw [e] at h2
  exact h2
theorem sk_kw (h : SKw ct X kws (cargs as)) : SK ct X [] kws (cargs as) := by
  refine ⟨fun W tk => ?_⟩
  obtain ⟨t2, p2, r⟩ := h.run W tk
  exact ⟨_, t2, pa_nil, p2, fun S F H σ ρ Q E ok G => r S F H σ ρ Q E ok G⟩
theorem sk_lend (i : Nat) {x : Str} {pos : Pos} (h : SK ct X es kws (cargs as)) (hN : X.N[i]? = some x := by rfl) (hv : Vis X.env.scope x := by first | exact Or.inl rfl | exact Or.inr (Or.inl rfl) | exact Or.inr (Or.inr rfl)) (hd : (x == ("__debug__" : Str)) = false := by decide)
    (hcd : (x == ("__classdict__" : Str)) = false := by decide) : SK ct X (.Name x pos :: es) kws (cargs (.lend i :: as)) := by
  refine ⟨fun W tk => ?_⟩
  obtain ⟨t1, t2, p1, p2, r⟩ := h.run W tk
  exact ⟨_, t2, pa_cons (pv i hN hv hd hcd) p1, p2, fun S F H σ ρ Q E ok G => ca_lend (r := fun σ H Q => t1 σ H fun vs H1 => t2 σ H1 fun zs H2 => zs.length = kws.length ∧ Q (vs ++ zs) H2) r S F H σ ρ Q E ok G⟩
theorem sk_val (ha : SE ct X e ge) (h : SK ct X es kws (cargs as)) (hs : starEach (e :: es) X.env = (false, eval e X.env) :: starEach es X.env := by rfl) : SK ct X (e :: es) kws (cargs (.val ge :: as)) := by
  refine ⟨fun W tk => ?_⟩
  obtain ⟨ta, pa, ra⟩ := ha.run W tk
  obtain ⟨t1, t2, p1, p2, r⟩ := h.run W tk
  exact ⟨_, t2, pa_cons pa p1 hs, p2, fun S F H σ ρ Q E ok G => ca_val (r := fun σ H Q => t1 σ H fun vs H1 => t2 σ H1 fun zs H2 => zs.length = kws.length ∧ Q (vs ++ zs) H2) ra r S F H σ ρ Q E ok G⟩
end
end
/-! ### the parameters' order -/
theorem sel_map {α β : Type} (f : α → β) : ∀ (is : List Nat) (l : List α), sel is (l.map f) = (sel is l).map f
  | [], _ => rfl
  | i :: is, l => by
    unfold sel
    rw [List.getElem?_map, sel_map f is l]
    cases l[i]? <;> rfl
theorem sel_succ {α : Type} (x : α) : ∀ (is : List Nat) (l : List α), sel (is.map Nat.succ) (x :: l) = sel is l
  | [], _ => rfl
  | i :: is, l => by
    show (match (x :: l)[i + 1]? with | some y => y :: sel (is.map Nat.succ) (x :: l) | none => sel (is.map Nat.succ) (x :: l)) = sel (i :: is) l
    rw [List.getElem?_cons_succ, sel_succ x is l]
    rfl
theorem sel_range {α : Type} : ∀ (l : List α), sel (List.range l.length) l = l
  | [] => rfl
  | x :: l => by
    rw [List.length_cons, List.range_succ_eq_map]
    show x :: sel ((List.range l.length).map Nat.succ) (x :: l) = x :: l
    rw [sel_succ, sel_range l]
theorem sel_perm {α : Type} (l : List α) {is js : List Nat} (p : is.Perm js) : (sel is l).Perm (sel js l) := by
  induction p with
  | nil => exact .nil
  | cons i _ ih =>
    unfold sel
    cases l[i]? with
    | none => exact ih
    | some x => exact .cons x ih
  | swap i j is =>
    unfold sel
    unfold sel
    cases l[i]? with
    | none => cases l[j]? <;> exact .refl _
    | some x =>
      cases l[j]? with
      | none => exact .refl _
      | some y => exact .swap _ _ _
  | trans _ _ a b => exact a.trans b
theorem EnvRp.reorder {K : PySem.W.Frag} {S : Addr → Prop} {H : Hp} {l l' : List (Option V × Option PV)} (p : l.Perm l') : ∀ {F : List Addr}, EnvRp K S H (l.map (·.1)) (l.map (·.2)) F → EnvRp K S H (l'.map (·.1)) (l'.map (·.2)) F := by
  induction p with
  | nil => exact fun h => h
  | cons x _ ih =>
    obtain ⟨x, y⟩ := x
    intro F h
    cases h with
    | dead h => exact .dead (ih h)
    | live r h q => exact .live r (ih h) q
  | swap x y l =>
    obtain ⟨x, x'⟩ := x
    obtain ⟨y, y'⟩ := y
    intro F h
    cases h with
    | dead h =>
      cases h with
      | dead h => exact .dead (.dead h)
      | live r h q => exact .live r (.dead h) q
    | live r h q =>
      cases h with
      | dead h => exact .dead (.live r h q)
      | live r' h q' => exact .live r' (.live r h (.refl _)) (q.trans ((List.Perm.append_left _ q').trans perm_mid))
  | trans _ _ a b => exact fun h => b (a h)
theorem zip_fst {α β : Type} {l : List α} {k : List β} (h : l.length = k.length) : (l.zip k).map (·.1) = l := by rw [List.map_fst_zip]; omega
theorem zip_snd {α β : Type} {l : List α} {k : List β} (h : l.length = k.length) : (l.zip k).map (·.2) = k := by rw [List.map_snd_zip]; omega
/-- the two orders undo each other -/
structure Ord (n : Nat) (is js : List Nat) : Prop where
  pi : is.Perm (List.range n)
  pj : js.Perm (List.range n)
  un : ∀ {α : Type} (l : List α), l.length = n → sel js (sel is l) = l
theorem Ord.len {α : Type} {n : Nat} {is js : List Nat} (o : Ord n is js) (l : List α) (h : l.length = n) : (sel is l).Perm l := by
  subst h
  have := sel_perm l o.pi
  rwa [sel_range] at this
theorem Ord.lenj {α : Type} {n : Nat} {is js : List Nat} (o : Ord n is js) (l : List α) (h : l.length = n) : (sel js l).Perm l := by
  subst h
  have := sel_perm l o.pj
  rwa [sel_range] at this
theorem spF_byK {K : PySem.W.Frag} {ct : Str → Addr} {n : Nat} {m : List PV → RF} {is js : List Nat} (o : Ord n is js) {vs : List V} {H : Hp} {Q : VK} {E : XK} (h : SpF K ct n (byK is js m) vs H Q E) : SpF K ct n m (sel is vs) H Q E := by
  obtain ⟨S, F, pvs, EV, ok, hl, q⟩ := h
  have hp : vs.length = pvs.length := by simpa using EV.len
  have e1 : ((vs.map some).zip (pvs.map some)).map (·.1) = vs.map some := zip_fst (by simpa using hp)
  have e2 : ((vs.map some).zip (pvs.map some)).map (·.2) = pvs.map some := zip_snd (by simpa using hp)
  have hz : ((vs.map some).zip (pvs.map some)).length = n := by rw [List.length_zip, List.length_map, List.length_map]; omega
  have a1 : (sel is ((vs.map some).zip (pvs.map some))).map (·.1) = (sel is vs).map some := by rw [← sel_map, e1, sel_map]
  have a2 : (sel is ((vs.map some).zip (pvs.map some))).map (·.2) = (sel is pvs).map some := by rw [← sel_map, e2, sel_map]
  have EV2 : EnvRp K S H ((sel is vs).map some) ((sel is pvs).map some) F := by
    rw [← a1, ← a2]
    refine EnvRp.reorder (o.len _ hz).symm ?_
    rw [e1, e2]
    exact EV
  have hls : (sel is vs).length = n := by rw [(o.len vs hl).length_eq]; exact hl
  refine ⟨S, F, sel is pvs, EV2, ok, hls, ?_⟩
  have back : ∀ {S' : Addr → Prop} {H' : Hp} {out : Vs.Env} {F' : List Addr}, EnvRp K S' H' ((sel is vs).map some) out F' → EnvRp K S' H' (vs.map some) (sel js out) F' := fun {S' H' out F'} EO => by
    have hlo : ((sel is vs).map some).length = out.length := EO.len
    have f1 : (((sel is vs).map some).zip out).map (·.1) = (sel is vs).map some := zip_fst hlo
    have f2 : (((sel is vs).map some).zip out).map (·.2) = out := zip_snd hlo
    have hz2 : (((sel is vs).map some).zip out).length = n := by rw [List.length_zip, ← hlo, List.length_map, hls]; omega
    have := EnvRp.reorder (K := K) (S := S') (H := H') (F := F') (o.lenj _ hz2).symm (by rw [f1, f2]; exact EO)
    have b1 : (sel js (((sel is vs).map some).zip out)).map (·.1) = vs.map some := by rw [← sel_map, f1, sel_map, o.un vs hl]
    have b2 : (sel js (((sel is vs).map some).zip out)).map (·.2) = sel js out := by rw [← sel_map, f2]
    rw [b1, b2] at this
    exact this
  unfold byK at q
  cases qm : m (sel is pvs) with
  | no => rw [qm] at q; exact q
  | ok r out =>
    rw [qm] at q
    exact fun v S' H' F' f st hr EO k => q v S' H' F' f st hr (back EO) k
  | ex e out =>
    rw [qm] at q
    exact fun C d S' H' F' st EO k hx => q C d S' H' F' st (back EO) k hx
section
variable {ct : Str → Addr} {X : Cx} {W : WX} {k : Nat} {f : Addr} {fd : FuncData} {ps : List Str} {m : List PV → RF} {as : List AK} {df : List PV} {dvs : List V} {ds : List Value} {kws : List Keyword}
/-- how keywords are bound -/
structure BindK (K : PySem.W.Frag) (fd : FuncData) (ps ks : List Str) (ds : List Value) (is : List Nat) : Prop where
  to : ∀ (s : Shared) (us ws : List Value), K.In s.heap → ws.length = ks.length → us.length + ws.length + ds.length = ps.length → BindsTo s fd ⟨us, ks.zip ws⟩ (ps.zip (sel is ((us ++ ws) ++ ds)))
theorem sel_vals {vs : List V} {us : List Value} (h : Vals vs us) : ∀ is : List Nat, Vals (sel is vs) (sel is us)
  | [] => .nil
  | i :: is => by
    unfold sel
    cases q : vs[i]? with
    | none =>
      have : us[i]? = none := by
        rw [List.getElem?_eq_none_iff] at q ⊢
        rw [← h.length]
        exact q
      rw [this]
      exact sel_vals h is
    | some x =>
      obtain ⟨u, e, r⟩ := h.get q
      rw [e]
      exact .cons r (sel_vals h is)
theorem callK_end {is js : List Nat} {ks : List Str} {pins : List (Addr × Obj)} {σ : L2.St} {H2 : Hp} {s2 : Shared} {Q : VK} {us ws : List Value} {vs zs : List V} (F : Fn X.prog X.w X.K X.mg X.base ct k f fd ps m) (hgd : X.A.guards = some []) (hr : Room k X.A) (hb : BindK X.K fd ps ks ds is) (hdv : Vals dvs ds) (o : Ord ps.length is js)
    (tk : Takes X W) (I2 : Inv X pins σ H2 s2) (rv : Vals vs us) (rz : Vals zs ws) (hks : ws.length = ks.length) (q : SpF X.K ct ps.length (byK is js m) ((vs ++ zs) ++ dvs) H2 Q fun C d H' => W C d σ H') :
    wpAny (model X.prog X.w) X.A (PySem.call (.ref f) us (ks.zip ws)) (EP X pins σ Q) X.xe s2 := by
  have hl : us.length + ws.length + ds.length = ps.length := by
    obtain ⟨_, _, _, _, _, z, _⟩ := q
    rw [← z, List.length_append, List.length_append, rv.length, rz.length, hdv.length]
  refine wpAny_call (codeAny_mono (F.run X.A X.stack s2 H2 ⟨us, ks.zip ws⟩ _ _ Q _ hgd hr I2.env0 (hb.to s2 us ws I2.kIn hks hl) (sel_vals ((rv.append rz).append hdv) is) (spF_byK o q)) fun rr s' hq => ?_)
  cases rr with
  | error e => exact L2N.passAt tk σ pins H2 s2 e s' I2 hq
  | ok fl =>
    cases fl with
    | ret u => exact I2.after hq
    | next => exact False.elim hq
    | brk => exact False.elim hq
    | cont => exact False.elim hq
/-- f(a, .., x = b, ..) -/
theorem s_callK {is js : List Nat} {ks : List Str} {x : Str} {p pos : Pos} {e : Expr} {es : List Expr} (F : Fn X.prog X.w X.K X.mg X.base ct k f fd ps m) (hgd : X.A.guards = some []) (hr : Room k X.A) (hg : Gl X x) (hm : X.mg x = some (.ref f)) (hk : PySem.W.keepIn X.K (.ref f) = true) (hb : BindK X.K fd ps ks ds is) (hdv : Vals dvs ds) (hd : DfOk X.K df dvs) (o : Ord ps.length is js)
    (ha : SK ct X (e :: es) kws (cargs as)) (hn : as.length + dvs.length = ps.length) (hkl : kws.length = ks.length) (hall : (backToKw pos (keywordEach kws X.env)).all (·.1.isSome) = true := by rfl) (hks : (backToKw pos (keywordEach kws X.env)).filterMap (·.1) = ks := by rfl)
    (hdb : (x == ("__debug__" : Str)) = false := by decide) (he : starEach (e :: es) X.env = (false, eval e X.env) :: starEach es X.env := by rfl)
    (hpl : ((backTo pos (starEach (e :: es) X.env)).any (·.1) || (backToKw pos (keywordEach kws X.env)).any (·.1.isNone)) = false := by rfl) :
    SE ct X (.Call (.Name x p) (e :: es) kws pos) (call (byK is js m) df as) := by
  refine ⟨fun W tk => ?_⟩
  obtain ⟨t, t2, pa, pk, r⟩ := ha.run W tk
  refine ⟨fun σ H Q => t σ H fun vs H1 => t2 σ H1 fun zs H2 => zs.length = kws.length ∧ SpF X.K ct ps.length (byK is js m) ((vs ++ zs) ++ dvs) H2 Q fun C d H' => W C d σ H', ⟨fun pins s σ H Q I h => ?_⟩,
    fun S F H σ ρ Q E ok G => run_call (x := .non) (t := fun σ H Q => t σ H fun vs H1 => t2 σ H1 fun zs H2 => zs.length = kws.length ∧ Q (vs ++ zs) H2) hd hn r E ok G⟩
  refine wpAny_Call_Name_kw (ld_glob I hg hm ?_ hdb)
  refine PySem.W.callWith_KW (h₀ := X.base) I.ok.mod.kin hk hall (L2.thn (pa.run pos pins s σ H _ I h) fun us s1 ⟨vs, H1, I1, rv, q1⟩ => L2.thn (pk.run pos pins s1 σ H1 _ I1 q1) fun ws s2 ⟨zs, H2, I2, rz, hzs, q⟩ => ⟨I2.kIn, ?_⟩) hpl he
  rw [hks]
  exact callK_end F hgd hr hb hdv o tk I2 rv rz (by rw [← rz.length, hzs, hkl]) q
/-- f(x = b, ..) -/
theorem s_callK0 {is js : List Nat} {ks : List Str} {x : Str} {p pos : Pos} (F : Fn X.prog X.w X.K X.mg X.base ct k f fd ps m) (hgd : X.A.guards = some []) (hr : Room k X.A) (hg : Gl X x) (hm : X.mg x = some (.ref f)) (hk : PySem.W.keepIn X.K (.ref f) = true) (hb : BindK X.K fd ps ks ds is) (hdv : Vals dvs ds) (hd : DfOk X.K df dvs) (o : Ord ps.length is js)
    (ha : SKw ct X kws (cargs as)) (hn : as.length + dvs.length = ps.length) (hkl : kws.length = ks.length) (hall : (backToKw pos (keywordEach kws X.env)).all (·.1.isSome) = true := by rfl) (hks : (backToKw pos (keywordEach kws X.env)).filterMap (·.1) = ks := by rfl)
    (hdb : (x == ("__debug__" : Str)) = false := by decide) (hpl : ((backTo pos (starEach [] X.env)).any (·.1) || (backToKw pos (keywordEach kws X.env)).any (·.1.isNone)) = false := by rfl) :
    SE ct X (.Call (.Name x p) [] kws pos) (call (byK is js m) df as) := by
  refine ⟨fun W tk => ?_⟩
  obtain ⟨t2, pk, r⟩ := ha.run W tk
  refine ⟨fun σ H Q => t2 σ H fun zs H2 => zs.length = kws.length ∧ SpF X.K ct ps.length (byK is js m) (zs ++ dvs) H2 Q fun C d H' => W C d σ H', ⟨fun pins s σ H Q I h => ?_⟩,
    fun S F H σ ρ Q E ok G => run_call (x := .non) (t := fun σ H Q => t2 σ H fun zs H2 => zs.length = kws.length ∧ Q zs H2) hd hn r E ok G⟩
  refine wpAny_Call_Name_kw (ld_glob I hg hm ?_ hdb)
  refine PySem.W.callWith_KW0 (h₀ := X.base) I.ok.mod.kin hk hall (L2.thn (pk.run pos pins s σ H _ I h) fun ws s2 ⟨zs, H2, I2, rz, hzs, q⟩ => ⟨I2.kIn, ?_⟩) hpl
  rw [hks]
  exact callK_end (us := []) (vs := []) F hgd hr hb hdv o tk I2 .nil rz (by rw [← rz.length, hzs, hkl]) q
end
end Vs
set_option maxHeartbeats 4000000
/-! Vs: comparisons as tests; not; returns; names of the module. -/
namespace Vs
open PySem PySem.Spec PyProof.Rows L2
section
variable {ct : Str → Addr} {lent : List Bool} {X : Cx} {a b c e : Expr} {es : List Expr} {ga gb gc ge : M} {gs : MA} {pos p : Pos}
theorem kNot_op : Op1 X.K (fun x H Q => ∃ c, x = V.bl c ∧ Q (.bl (!c)) H) kNot := fun S H x v f z Q h ok e hQ => by
  unfold kNot at e
  split at e
  · rename_i c el
    obtain rfl := Option.some.inj e
    exact ⟨c, h.bl el, ret_imm ok rfl (.bl _ _) hQ⟩
  · cases e
theorem s_not (ha : SE ct X a ga) : SE ct X (.UnaryOp .Not a pos) (one ga kNot) := run_one ha (fun pa => pe_not pa) kNot_op
/-- a value's reading as a test's -/
theorem run_tB {g : M} {e : Expr} (h : ∀ W, Takes X W → ∃ t, PT X e (tTest t) ∧ ∀ S F H σ ρ Q, EnvRp X.K S H σ ρ F → Ok S H F → Good X.K ct (VOk X.K) W S F H σ ρ (g ρ) Q → t σ H Q) : ST ct X e (tst g blOf) := by
  refine ⟨fun W tk => ?_⟩
  obtain ⟨ta, pa, ra⟩ := h W tk
  refine ⟨_, pa, fun S F H σ ρ Q E ok G => ra S F H σ ρ _ E ok ?_⟩
  refine good_bind G fun x o v S1 F1 H1 f _ t1 h1 E1 k1 G => ?_
  cases q : blOf x.d with
  | none => rw [q] at G; exact G.elim
  | some b =>
    rw [q] at G
    have e : x.d = .bl b := by
      cases e : x.d <;> rw [e] at q <;> simp [blOf] at q
      rw [q]
    obtain ⟨g, hr⟩ := h1.rp
    rw [e] at hr
    exact ⟨b, hr.vbl, G b S1 F1 H1 [] (t1.thn (f := f) (g := []) (o' := none) k1 Fit.nil (fun b hb => absurd hb (by simp)) (Same.refl _)) ⟨rfl, rfl⟩ E1 k1.tail⟩
theorem t_cmp {op : CmpOp} {r : R2} {k : VV → VV → Option VV} (ho : OpR X (compareOp op) r) (hk : Op2 X.K r k) (hm : behindInMarks op b = false) (ha : SE ct X a ga) (hb : SE ct X b gb) : ST ct X (.Compare a [op] [b] pos) (tst (two ga gb k) blOf) :=
  run_tB (run_twoG (Pe := fun t => PT X _ (tTest t)) ha hb (fun pa pb => pt_cmpR ho pa pb hm) hk)
theorem t_lt (ha : SE ct X a ga) (hb : SE ct X b gb) : ST ct X (.Compare a [.Lt] [b] pos) (tst (two ga gb kLt) blOf) := t_cmp op_lt kCmp_op (nomark _) ha hb
theorem t_le (ha : SE ct X a ga) (hb : SE ct X b gb) : ST ct X (.Compare a [.LtE] [b] pos) (tst (two ga gb kLe) blOf) := t_cmp op_le kCmp_op (nomark _) ha hb
theorem t_gt (ha : SE ct X a ga) (hb : SE ct X b gb) : ST ct X (.Compare a [.Gt] [b] pos) (tst (two ga gb kGt) blOf) := t_cmp op_gt kCmp_op (nomark _) ha hb
theorem t_ge (ha : SE ct X a ga) (hb : SE ct X b gb) : ST ct X (.Compare a [.GtE] [b] pos) (tst (two ga gb kGe) blOf) := t_cmp op_ge kCmp_op (nomark _) ha hb
theorem t_is (ha : SE ct X a ga) (hb : SE ct X b gb) : ST ct X (.Compare a [.Is] [b] pos) (tst (two ga gb kIs) blOf) := t_cmp op_is2 kIs_op (nomark _) ha hb
theorem t_isnot (ha : SE ct X a ga) (hb : SE ct X b gb) : ST ct X (.Compare a [.IsNot] [b] pos) (tst (two ga gb kIsNot) blOf) := t_cmp op_isNot2 kIsNot_op (nomark _) ha hb
theorem t_eq {k : Nat} (hr : Room k X.A) (ha : SE ct X a ga) (hb : SE ct X b gb) : ST ct X (.Compare a [.Eq] [b] pos) (tst (two ga gb kEq) blOf) := t_cmp (op_eqS (units_of hr)) kEq_op (nomark _) ha hb
theorem t_ne {k : Nat} (hr : Room k X.A) (ha : SE ct X a ga) (hb : SE ct X b gb) : ST ct X (.Compare a [.NotEq] [b] pos) (tst (two ga gb kNe) blOf) := t_cmp (op_neS (units_of hr)) kNe_op (nomark _) ha hb
theorem t_in {k : Nat} (hr : Room k X.A) (ha : SE ct X a ga) (hb : SE ct X b gb) (hm : behindInMarks .In b = false := by with_unfolding_all rfl) : ST ct X (.Compare a [.In] [b] pos) (tst (two ga gb kIn) blOf) := t_cmp (op_in2 (units_of hr)) kIn_op hm ha hb
theorem t_notin {k : Nat} (hr : Room k X.A) (ha : SE ct X a ga) (hb : SE ct X b gb) (hm : behindInMarks .NotIn b = false := by with_unfolding_all rfl) : ST ct X (.Compare a [.NotIn] [b] pos) (tst (two ga gb kNotIn) blOf) := t_cmp (op_notIn2 (units_of hr)) kNotIn_op hm ha hb
theorem t_chain {op op' : CmpOp} {φ ψ : Int → Int → Bool} (ho : OpR X (compareOp op) (rI0 fun i j => .bl (φ i j))) (ho' : OpR X (compareOp op') (rI0 fun i j => .bl (ψ i j))) (ha : SE ct X a ga) (hb : SE ct X b gb) (hc : SE ct X c gc)
    (hm : lastMarks [op, op'] [b, c] = false := by with_unfolding_all rfl) : ST ct X (.Compare a [op, op'] [b, c] pos) (tst (chain ga gb gc φ ψ) blOf) :=
  run_tB (run_chain (Pe := fun t => PT X _ (tTest t)) ha hb hc (fun pa pb pc => pt_chain ho ho' pa pb pc hm))
/-- a name of the module -/
theorem s_globD {z : VV} {x : Str} {u : Value} {w : V} (hb : z.b = false) (hv : ∀ S H, Rp X.K S H z.m w z.d []) (hg : Gl X x) (hm : X.mg x = some u) (r : RelV w u) (hdb : (x == ("__debug__" : Str)) = false := by decide) : SE ct X (.Name x pos) (cst z) := by
  refine ⟨fun W tk => ⟨_, pe_glob hg hm r (hd := hdb), fun S F H σ ρ Q E ok G => G w S F H [] Fit.nil ?_ E ok⟩⟩
  obtain ⟨b, m, d⟩ := z
  obtain rfl : b = false := hb
  rw [VOk.own]
  exact hv S H
/-- return of a local name -/
theorem ss_retv (i : Nat) {x : Str} (hN : X.N[i]? = some x := by rfl) (hv : Vis X.env.scope x := by first | exact Or.inl rfl | exact Or.inr (Or.inl rfl) | exact Or.inr (Or.inr rfl)) (hd : (x == ("__debug__" : Str)) = false := by decide)
    (hcd : (x == ("__classdict__" : Str)) = false := by decide) : SS ct lent X (.Return (some (.Name x p)) pos) (retv i) := by
  refine ⟨fun W tk po => ⟨_, ps_ret (pv i hN hv hd hcd), fun S F H σ ρ D E ok G => ?_⟩⟩
  unfold retv at G
  cases q : look ρ i with
  | none => rw [q] at G; exact G.elim
  | some pv =>
    obtain ⟨m, d⟩ := pv
    rw [q] at G
    obtain ⟨v, f, G', h1, h2, p, E'⟩ := E.take q
    exact ⟨v, h1, G v f σ S G' H (Step.refl.less fun b hb => p.mem_iff.mpr hb) h2 E' (ok.perm p) Kp.refl⟩
/-- x op= e of ints -/
theorem ss_aug {i : Nat} {x : Str} {op : Operator} {r : R2} {k : VV → VV → Option VV} {pos' : Pos} (hp : PIp X op r) (hk : Op2 X.K r k) (hi0 : ∀ x y z, k x y = some z → x.d.imm = true ∧ z.d.imm = true) (hN : X.N.Nodup) (hi : X.N[i]? = some x) (hx : Loc X.env.scope x) (hl : lent[i]? ≠ some true) (he : SE ct X e ge)
    (hf : X.fn x = true ∨ X.env.scope.names.lookup x = some .local := by first | exact .inl rfl | exact .inr rfl | assumption) : SS ct lent X (.AugAssign (.Name x pos') op e pos) (asg (two (v i) ge k) (gname i)) := by
  refine ⟨fun W tk po => ?_⟩
  obtain ⟨te, pe, re⟩ := he.run W tk
  refine ⟨_, ps_aug hN hi hx pe hp hf, fun S F H σ ρ D E ok G => ?_⟩
  obtain ⟨tn, _, rn⟩ := (sg_name (ct := ct) (lent := lent) (X := X) (pos := pos') hN hi hx hl hf).run W tk
  unfold asg two v at G
  cases q : look ρ i with
  | none => rw [q] at G; exact G.elim
  | some pv =>
    obtain ⟨m, d⟩ := pv
    rw [q] at G
    obtain ⟨v, f, G', h1, h2, p, E'⟩ := E.take q
    refine ⟨v, h1, re S F H σ ρ _ E ok ?_⟩
    replace G : GoodS X.K ct lent W D S F H σ ((((ge ρ).nxt (VV.stable ⟨!(m == 0), m, d⟩) fun y => .ofO (k ⟨!(m == 0), m, d⟩ y)).aft none).go ρ fun x ρ1 => gname i x ρ1) := G
    rw [R.aft_none] at G
    cases qe : ge ρ with
    | no => rw [qe] at G; exact G
    | ex ee ρ1 =>
      rw [qe] at G
      exact fun C d S' F' H' st E' o' hx => G C d σ S' F' H' st E' o' Kp.refl hx
    | ok y o =>
      rw [qe, R.nxt_ok] at G
      intro u S2 F2 H2 g t2 hy E2 k2
      split at G
      · cases qk : k ⟨!(m == 0), m, d⟩ y with
        | none => rw [qk] at G; exact G.elim
        | some z =>
          rw [qk] at G
          obtain ⟨im, iz⟩ := hi0 _ _ _ qk
          obtain ⟨rfl, im2⟩ := h2.imm im
          have hv : VOk X.K S2 H2 ⟨!(m == 0), m, d⟩ v [] := .of_rp (by simp [VV.stable, im]) (im2 _ _ _)
          refine hk S2 H2 _ v [] y u g z _ hv hy (by simpa using k2.head) qk fun w H' S' h gr hw oh => ?_
          have hw0 := hw.stab (by simp [VV.stable, iz])
          obtain ⟨rfl, iw⟩ := hw0.imm iz
          have gr : Grow S2 H2 g S' [] H' := gr
          have t3 := t2.grow k2 gr
          have k3 : Ok S' H' ([] ++ F2) := gr.ok k2 oh
          have E3 : EnvRp X.K S' H' σ (now o ρ) F2 := (E2.same gr.same).more gr.sub
          replace G : GoodS X.K ct lent W D S F H σ (gname i z (now o ρ)) := by
            have e : (((R.ofO (some z)).aft o).go ρ fun x ρ1 => gname i x ρ1) = gname i z (now o ρ) := by cases o <;> rfl
            rw [e] at G
            exact G
          unfold gname at G
          have hk2 : z.kept = some (z.m, z.d) := by simp [VV.kept, VV.stable, iz]
          rw [hk2] at G
          obtain ⟨f0, G0, p, E0⟩ := E3.drop i
          show D.nx (σ.set i (some w)) H'
          have k3' : Ok S' H' F2 := k3
          by_cases hl2 : i < σ.length
          · exact G _ S' ([] ++ G0) H' (t3.step.less fun b hb => p.mem_iff.mpr (List.mem_append_right _ hb)) (E0.fill hl2 hw0) (k3'.perm p).tail (Kp.set hl)
          · have e1 : σ.set i (some w) = σ := List.set_eq_of_length_le (by omega)
            have e2 : Vs.put (now o ρ) i (some (z.m, z.d)) = now o ρ := put_over _ _ _ (by rw [← E3.len]; omega)
            replace G : GoodS X.K ct lent W D S F H σ (.nx (Vs.put (now o ρ) i (some (z.m, z.d)))) := G
            rw [e2] at G
            rw [e1]
            exact G σ S' F2 H' t3.step E3 k3' Kp.refl
      · exact G.elim
theorem kBit_imm {φ : Int → Int → Int} {x y z : VV} (h : kBit φ x y = some z) : x.d.imm = true ∧ z.d.imm = true := by
  unfold kBit at h
  split at h
  · rename_i i j h1 h2
    obtain rfl := Option.some.inj h
    rw [h1]
    exact ⟨rfl, rfl⟩
  · cases h
theorem ss_augAdd {i : Nat} {x : Str} {pos' : Pos} (hN : X.N.Nodup) (hi : X.N[i]? = some x) (hx : Loc X.env.scope x) (hl : lent[i]? ≠ some true) (he : SE ct X e ge)
    (hf : X.fn x = true ∨ X.env.scope.names.lookup x = some .local := by first | exact .inl rfl | exact .inr rfl | assumption) : SS ct lent X (.AugAssign (.Name x pos') .Add e pos) (asg (two (v i) ge (kBit fun i j => i + j)) (gname i)) :=
  ss_aug ip_add kBit_op (fun _ _ _ => kBit_imm) hN hi hx hl he hf
theorem ss_augSub {i : Nat} {x : Str} {pos' : Pos} (hN : X.N.Nodup) (hi : X.N[i]? = some x) (hx : Loc X.env.scope x) (hl : lent[i]? ≠ some true) (he : SE ct X e ge)
    (hf : X.fn x = true ∨ X.env.scope.names.lookup x = some .local := by first | exact .inl rfl | exact .inr rfl | assumption) : SS ct lent X (.AugAssign (.Name x pos') .Sub e pos) (asg (two (v i) ge (kBit fun i j => i - j)) (gname i)) :=
  ss_aug ip_sub kBit_op (fun _ _ _ => kBit_imm) hN hi hx hl he hf
theorem kMulS_op : Op2 X.K (rI CMul fun i j => .int (i * j)) kMulS := op2_int fun x y z e => by
  unfold kMulS at e
  split at e
  · rename_i i j h1 h2
    split at e
    · rename_i c
      obtain rfl := Option.some.inj e
      exact ⟨i, j, h1, h2, .inl ⟨by omega, by omega⟩, rfl, fun _ _ => .int _ _⟩
    · cases e
  · cases e
theorem kMulS_imm {x y z : VV} (h : kMulS x y = some z) : x.d.imm = true ∧ z.d.imm = true := by
  unfold kMulS at h
  split at h
  · rename_i i j h1 h2
    split at h
    · obtain rfl := Option.some.inj h
      rw [h1]
      exact ⟨rfl, rfl⟩
    · cases h
  · cases h
theorem ss_augMul {i : Nat} {x : Str} {pos' : Pos} (hN : X.N.Nodup) (hi : X.N[i]? = some x) (hx : Loc X.env.scope x) (hl : lent[i]? ≠ some true) (he : SE ct X e ge)
    (hf : X.fn x = true ∨ X.env.scope.names.lookup x = some .local := by first | exact .inl rfl | exact .inr rfl | assumption) : SS ct lent X (.AugAssign (.Name x pos') .Mult e pos) (asg (two (v i) ge kMulS) (gname i)) :=
  ss_aug iop_mul kMulS_op (fun _ _ _ => kMulS_imm) hN hi hx hl he hf
end
end Vs
set_option maxHeartbeats 4000000
/-! Vs: the law's own head. -/
namespace Vs
open PySem PySem.Spec PyProof.Rows L2
section
variable {P : Program} {w : World} {K : PySem.W.Frag} {mg mb : Str → Option Value} {ct : Str → Addr} {k : Nat} {fa a : Addr} {fd : FuncData} {x : Str} {m : List PV → RF} {s1 : Shared} {vs : List Value} {ns : List Int}
/-- at most the script at a is tracked -/
structure Start (P : Program) (w : World) (K : PySem.W.Frag) (H : Hp) (h : Heap) (a : Addr) (ns : List Int) : Prop where
  one : ∀ b, H b = none ∨ ∃ o xs, H b = some (.frz o (.lst xs))
  at_ : ∀ b, H b ≠ none → b = a
  out : H a ≠ none → K.lookup a = none
  ok : HOk P w H h
  sq : SqL K H a (ns.map V.int)
/-- one of the two -/
theorem start_of {vs : List Value} (KX : K.In s1.heap) (ha : s1.heap.get? a = some { cls := .type "list", data := .seq vs.toArray }) (hi : IntsAre vs ns) (hl : ns.length ≤ sizeLine) : ∃ H, Start P w K H s1.heap a ns := by
  have rv := vals_ints hi
  have le := hi.length
  cases hk : K.lookup a with
  | some o =>
    have e := KX a o hk
    rw [ha] at e
    cases e
    exact ⟨fun _ => none, fun _ => .inl rfl, fun _ z => absurd rfl z, fun z => absurd rfl z, fun b u z => (by cases (show (none : Option HO) = some u from z)), .inr ⟨_, vs.toArray, _, hk, rfl, rfl, rfl, by rw [List.size_toArray, le]; exact hl, by simpa using rv⟩⟩
  | none =>
    let H : Hp := fun b => if b = a then some (.frz { cls := .type "list", data := .seq vs.toArray } (.lst (ns.map V.int))) else none
    have at1 : H a = some (.frz { cls := .type "list", data := .seq vs.toArray } (.lst (ns.map V.int))) := if_pos rfl
    have at2 : ∀ {b}, b ≠ a → H b = none := fun h => if_neg h
    refine ⟨H, fun b => ?_, fun b z => Classical.byContradiction fun hb => z (at2 hb), fun _ => hk, fun b u z => ?_, .inl (.inr ⟨_, at1⟩)⟩
    · by_cases hb : b = a
      · exact .inr ⟨_, _, by rw [hb]; exact at1⟩
      · exact .inl (at2 hb)
    · by_cases hb : b = a
      · subst hb
        rw [at1] at z
        cases z
        exact ⟨ha, by rw [List.length_map]; exact hl, vs, _, rv, ha⟩
      · rw [at2 hb] at z
        cases z
theorem start_sp {H : Hp} {h : Heap} {r : PV} {out : Vs.Env} (T : Start P w K H h a ns) (hm : m [(0, .lst (dints ns))] = .ok r out) (hr : r.2 = .bl true) : SpF K ct 1 m [.ref a] H (fun v _ => v = .bl true) fun _ _ _ => False := by
  have ok : Ok (fun b => H b ≠ none) H [] := ⟨.nil, by simp, by simp, fun _ z => z⟩
  refine ⟨fun b => H b ≠ none, [], [(0, .lst (dints ns))], .live (f := []) (F := []) ?_ .nil (.refl _), ok, rfl, ?_⟩
  · rcases T.sq with h | h
    · refine .lst0 h ?_ (RpAll.dints 0 ns)
      rcases h with h | ⟨o, h⟩ <;> rw [h] <;> simp
    · exact .lstK (.inr h) (RpAll.dints 0 ns)
  · rw [hm]
    intro v S' H' F' f _ hv _ _
    rw [hr] at hv
    exact hv.vbl
/-- the def's promise at the heap behind the top -/
theorem law_runs {r : PV} {out : Vs.Env} (KX : K.In s1.heap) (hns : s1.heap.Ns mainGlobals mg) (hb : s1.heap.Ns builtinsNs mb) (hbb : ∀ x : Str, x ≠ "__name__" → mb x = bootBuiltins x) (hlim : s1.heap.NoLimit) (hg : s1.gens = #[])
    (ha : s1.heap.get? a = some { cls := .type "list", data := .seq vs.toArray }) (hi : IntsAre vs ns) (hl : ns.length ≤ sizeLine) (hr : Room k callerA)
    (F : ∀ base : Heap, K.In base → base.Ns mainGlobals mg → Fn P w K mg base ct k fa fd [x] m) (hbind : ∀ (s : Shared) (u : Value), BindsTo s fd ⟨[u], []⟩ [(x, u)])
    (hm : m [(0, .lst (dints ns))] = .ok r out) (hr2 : r.2 = .bl true) :
    codeAny (model P w) callerA (.call (.ref fa) ⟨[.ref a], []⟩) (fun r s' => r = .ok (.ret (.bool true)) ∧ OldK s1.heap s'.heap ∧ s'.os = s1.os ∧ AllBare s'.gens) s1 := by
  obtain ⟨H, T⟩ := start_of (P := P) (w := w) KX ha hi hl
  let base := hidT s1.heap H
  have tell : ∀ {b : Addr} {o : Obj}, s1.heap.get? b = some o → (H b ≠ none → False) → base.get? b = some o := fun e n => hidT_get e (Classical.byContradiction fun z => n z)
  have notD : ∀ {b : Addr} {o : Obj} {es : Array DictEntry} {ep : Nat}, s1.heap.get? b = some o → o.data = .dict es ep → H b ≠ none → False := fun {b o es ep} e d z => by
    obtain rfl := T.at_ b z
    rw [ha] at e
    cases e
    cases (show Data.seq vs.toArray _ = Data.dict es ep from d)
  have ns_ : ∀ {b : Addr} {g : Str → Option Value}, s1.heap.Ns b g → base.Ns b g := fun {b g} ⟨o, es, ep, e, d, z⟩ => ⟨o, es, ep, tell e (notD e d), d, z⟩
  have inn : K.In base := fun b o e => tell (KX b o e) fun z => by
    obtain rfl := T.at_ b z
    rw [T.out z] at e
    cases e
  have md : Mod K mg base := ⟨inn, ns_ hns, ⟨mb, ns_ hb, hbb⟩, let ⟨mc, z1, z2⟩ := hlim; ⟨mc, ns_ z1, z2⟩⟩
  have env0 : Env0 P w K mg base callerA [] s1 H := ⟨rfl, md, fun b o e => of_hidT e, Nat.le_of_eq (hidT_size _ _), trivial, fun b hb => (by cases hb), T.ok, .of_eq hg⟩
  refine codeAny_mono ((F base inn (ns_ hns)).run callerA [] s1 H ⟨[.ref a], []⟩ [.ref a] [.ref a] _ _ rfl hr env0 (hbind s1 (.ref a)) (.cons rfl .nil) (start_sp T hm hr2)) fun rr s' h => ?_
  cases rr with
  | error e =>
    obtain ⟨_, _, _, _, _, _, _, _, _, _, _, _, z⟩ := h
    exact z.elim
  | ok fl =>
    cases fl with
    | next => exact h.elim
    | brk => exact h.elim
    | cont => exact h.elim
    | ret u =>
      obtain ⟨v, H', os, bare, un, hok', rv, rfl⟩ := h
      obtain rfl : u = Value.bool true := rv
      refine ⟨rfl, OldK.of_keep fun b o e => ?_, os, bare⟩
      rcases T.one b with z | ⟨ob, xs, z⟩
      · exact un.keep b o e z (fun z => by cases z) (by simp)
      · obtain ⟨e1, _⟩ := T.ok b _ z
        obtain ⟨e2, _⟩ := hok' b _ (un.frzs b ob _ z)
        rw [e] at e1
        cases e1
        exact e2
end
/-- what k_head leaves -/
theorem walk_of {l : PySem.W.OpenLaw} {n k : Nat} {q : Program} {loose : List Str} {XP : (Str → Option Value) → Heap → Prop} {YP : World → Heap → Prop} {d : DefRec} {K : Params → PySem.W.Frag} {x : Str} {m : List PV → RF}
    (hn : l.most = some n) (hn2 : n ≤ sizeLine) (hdf : d.params.defaults = []) (hr : Room k callerA) (hY : ∀ (w : World) (h : Heap), YP w h → (K w.params).In h)
    (F : ∀ (w : World) (mg : Str → Option Value) (fa : Addr) (h : Heap), (K w.params).In h → h.Ns mainGlobals mg → mg d.name = some (.ref fa) →
      ∃ (ct : Str → Addr) (fd : FuncData), (∀ (s : Shared) (u : Value), BindsTo s fd ⟨[u], []⟩ [(x, u)]) ∧ ∀ base : Heap, (K w.params).In base → base.Ns mainGlobals mg → Fn l.prog w (K w.params) mg base ct k fa fd [x] m)
    (hm : ∀ ns : List Int, ns.length ≤ n → ∃ r out, m [(0, .lst (dints ns))] = .ok r out ∧ r.2 = .bl true) : PySem.W.WalkO q loose XP YP l.row.toRowW d [] (fun f vs => PySem.call f vs) := by
  refine Att.attach_call hn hdf fun w s0 s1 mg mb fa o pm cd doc a vs ns G Y ho hd hcd hmg hobj hints hlen hg => ?_
  obtain ⟨ct, fd, hb, hF⟩ := F w mg fa _ (hY w _ Y) G.T.g hmg
  obtain ⟨r, out, h1, h2⟩ := hm ns hlen
  exact law_runs (hY w _ Y) G.T.g G.T.b G.T.builtins G.T.nolimit hg hobj hints (Nat.le_trans hlen hn2) hr hF hb h1 h2
end Vs
set_option maxHeartbeats 4000000
/-! Vs: defs with values of their own; methods on an item of a slot. -/
namespace Vs
open PySem PySem.Spec PyProof.Rows L2
section
variable {P : Program} {w : World} {K : PySem.W.Frag} {mg : Str → Option Value} {base : Heap} {ct : Str → Addr}
/-- the rule for a def -/
theorem fn_ofD {dvs : List V} {kws : List (Str × V)} {x qual : Str} {st : Stmt} {f : Addr} {fd : FuncData} {N ps : List Str} {k : Nat} {lent : List Bool} {g : MS} (F : FunD K x qual (defArgs st) (defBody st) (defScope st) dvs kws f fd) (Sc : FnScope N ps (defScope st)) (hn : ps.length ≤ N.length) (hl : lent.length = ps.length)
    (hbody : ∀ (cdv : Value) (A : Around) (outer : List PySem.Env) (s : Shared) (H : Hp) (E : XK), Room k (bodyX P w K mg base N qual st f cdv A outer s H E).A → (bodyX P w K mg base N qual st f cdv A outer s H E).A.guards = some [] →
      SSs ct lent (bodyX P w K mg base N qual st f cdv A outer s H E) (defBody st) g) : Fn P w K mg base ct (k + 1) f fd ps (fnM N.length lent g) := by
  obtain ⟨oc, od, dV, kV, doc, pm, an, cdv, cv, osl, rfl, lk, hcd, _, _⟩ := F.ex
  refine ⟨fun A outer s H args us vs Q E hgd hr e0 hb r hsp => ?_⟩
  have hlen : vs.length = ps.length := by
    obtain ⟨_, _, _, _, _, z, _⟩ := hsp
    exact z
  have inn : K.In s.heap := e0.mod.kin.keeps fun b o e => (e0.bs b o e).1
  have lim : s.heap.NoLimit := e0.mod.nolimit.keeps fun b o e => (e0.bs b o e).1
  refine codeAny_call_function hr.depth (inn _ _ lk) rfl Sc.co Sc.gen rfl (PySem.W.codeRec_of inn hcd) (hb _ _ _ _ ?_)
  refine wpAny_newFunctionEnv_cells Sc.kind (fun ⟨n, u⟩ hm => ?_) fun env henv s1 made => ?_
  · rcases Sc.par n (List.of_mem_zip hm).1 with z | z
    · exact .inl z
    · exact .inr ⟨z, PySem.W.cellsFrom_some _ _ _ (.inl z)⟩
  · subst henv
    refine ⟨lim.keeps made.toInCall.keep, codeAny_func ?_⟩
    have I : Inv (bodyX P w K mg base N qual st f cdv A outer s H E) [] (L2.start N vs) H s1 := inv_start Sc hr.hd e0 hlen r made
    obtain ⟨t, ht, run⟩ := (hbody cdv A outer s H E (hr.deeper _) hgd).run (fun cls d _ H => E cls d H) (L2N.takes_of rfl rfl rfl rfl) (passes_of rfl)
    refine wpAny_mono (ht.run [] s1 (L2.start N vs) H _ I (body_ends hn hl run hsp)) (fun fl s2 hs => ?_) fun _ _ z => z
    have ends : ∀ {σ' : L2.St} {H' : Hp} {v : V} {u : Value}, Inv (bodyX P w K mg base N qual st f cdv A outer s H E) [] σ' H' s2 → RelV v u → Q v H' → CE outer P w H s Q u s2 :=
      fun {σ' H' v u} J rv q => ⟨v, H', J.os, J.bare, J.base, J.hok, rv, q⟩
    cases fl with
    | ret u =>
      obtain ⟨v, σ', H', J, rv, q⟩ := hs
      exact ends J rv q
    | next =>
      obtain ⟨σ', H', J, q⟩ := hs
      exact ends (v := .non) (u := .none) J rfl q
    | brk =>
      obtain ⟨_, _, _, q⟩ := hs
      exact q.elim
    | cont =>
      obtain ⟨_, _, _, q⟩ := hs
      exact q.elim
/-- a def as the top has left it -/
theorem funD_mk {x qual : Str} {st : Stmt} {f : Addr} {oc : Value} {od an : Option Addr} {osl : Array (Option Value)} {dV kV doc pm cdv cv : Value} {dvs : List V} (l : K.lookup f = some ⟨oc, od, .func (PySem.W.fnOf x qual (defArgs st) (defBody st) (defScope st) dV kV doc pm an cdv cv), osl⟩)
    (c : PySem.W.codeIn K cdv qual = true) (k : PySem.W.keepIn K (.ref f) = true) (d : DflV K dV dvs) : FunD K x qual (defArgs st) (defBody st) (defScope st) dvs [] f (PySem.W.fnOf x qual (defArgs st) (defBody st) (defScope st) dV kV doc pm an cdv cv) :=
  ⟨⟨oc, od, dV, kV, doc, pm, an, cdv, cv, osl, rfl, l, c, d, .inl rfl⟩, k⟩
theorem dfl_none {dV : Value} (h : dV = .none) : DflV K dV [] := .inl ⟨rfl, h⟩
theorem dfl_some {dvs : List V} {T : Addr} {oc : Value} {od : Option Addr} {its : Array Value} {n : Nat} {sl : Array (Option Value)} (h : dvs ≠ []) (l : K.lookup T = some ⟨oc, od, .seq its n, sl⟩) (r : Vals dvs its.toList) : DflV K (.ref T) dvs :=
  .inr ⟨h, T, _, its.toList, n, rfl, l, by simp, r⟩
/-- no value of a parameter's own stands in -/
theorem binds_0 {x qual : Str} {st : Stmt} {f : Addr} {fd : FuncData} {ps : List Str} (F : FunD K x qual (defArgs st) (defBody st) (defScope st) [] [] f fd)
    (h : ∀ (kV doc pm : Value) (an : Option Addr) (cdv cv : Value) (us : List Value), us.length = ps.length → bindArgs (PySem.W.fnOf x qual (defArgs st) (defBody st) (defScope st) .none kV doc pm an cdv cv) ⟨us, []⟩ = pure (ps.zip us)) : L2.Binds K fd ps [] := by
  obtain ⟨oc, od, dV, kV, doc, pm, an, cdv, cv, osl, rfl, lk, hcd, hD, _⟩ := F.ex
  rcases hD with ⟨_, rfl⟩ | ⟨z, _⟩
  · exact Binds.all fun us hl => h _ _ _ _ _ _ us hl
  · exact absurd rfl z
theorem bindK_0 {x qual : Str} {st : Stmt} {f : Addr} {fd : FuncData} {ps ks : List Str} {is : List Nat} (F : FunD K x qual (defArgs st) (defBody st) (defScope st) [] [] f fd)
    (n : Nat) (hn : n + ks.length = ps.length) (h : ∀ (kV doc pm : Value) (an : Option Addr) (cdv cv : Value) (us ws : List Value), us.length = n → ws.length = ks.length → bindArgs (PySem.W.fnOf x qual (defArgs st) (defBody st) (defScope st) .none kV doc pm an cdv cv) ⟨us, ks.zip ws⟩ = pure (ps.zip (sel is ((us ++ ws) ++ [])))) : BindK K fd ps ks [] is := by
  obtain ⟨oc, od, dV, kV, doc, pm, an, cdv, cv, osl, rfl, lk, hcd, hD, _⟩ := F.ex
  rcases hD with ⟨_, rfl⟩ | ⟨z, _⟩
  · exact ⟨fun s us ws _ h1 h2 => BindsTo.of_eq (h _ _ _ _ _ _ us ws (by have h2 : us.length + ws.length + 0 = ps.length := h2; omega) h1)⟩
  · exact absurd rfl z
/-- the last of the own values stand in: all but the first j of them -/
theorem binds_D {x qual : Str} {st : Stmt} {f : Addr} {fd : FuncData} {ps : List Str} {dvs : List V} (n j : Nat) (hd : dvs ≠ []) (hn : n + (dvs.length - j) = ps.length) (F : FunD K x qual (defArgs st) (defBody st) (defScope st) dvs [] f fd)
    (h : ∀ (T : Addr) (kV doc pm : Value) (an : Option Addr) (cdv cv : Value) (us its : List Value), us.length = n → its.length = dvs.length →
      ∃ k, bindArgs (PySem.W.fnOf x qual (defArgs st) (defBody st) (defScope st) (.ref T) kV doc pm an cdv cv) ⟨us, []⟩ = seqItems? (.ref T) >>= k ∧ k (some its.toArray) = pure (ps.zip (us ++ its.drop j))) : ∃ ds, Vals (dvs.drop j) ds ∧ L2.Binds K fd ps ds := by
  obtain ⟨oc, od, dV, kV, doc, pm, an, cdv, cv, osl, rfl, lk, hcd, hD, _⟩ := F.ex
  rcases hD with ⟨z, _⟩ | ⟨_, T, o, its, n, rfl, lT, oT, rT⟩
  · exact absurd z hd
  · refine ⟨its.drop j, rT.drop j, fun s us X hl => ?_⟩
    rw [List.length_append, List.length_drop] at hl
    have hll := rT.length
    obtain ⟨k, h1, h2⟩ := h T kV doc pm an cdv cv us its (by omega) rT.length.symm
    exact PySem.W.binds_K X rfl lT oT h1 h2
end
section
variable {ct : Str → Addr} {lent : List Bool} {X : Cx} {gs : MA}
/-- a name's store -/
theorem store_at {K : PySem.W.Frag} {S : Addr → Prop} {H : Hp} {σ : L2.St} {ρ ρ' : Vs.Env} {F f : List Addr} {i : Nat} {x : VV} {v : V} (hl : lent[i]? ≠ some true) (h : VOk K S H x v f) (E : EnvRp K S H σ ρ F) (ok : Ok S H (f ++ F)) (e : gname i x ρ = .nx ρ') :
    ∃ F', EnvRp K S H (σ.set i (some v)) ρ' F' ∧ Ok S H F' ∧ (∀ b ∈ F', b ∈ f ++ F) ∧ Kp lent σ (σ.set i (some v)) := by
  unfold gname at e
  cases q : x.kept with
  | none => rw [q] at e; cases e
  | some pv =>
    rw [q] at e
    obtain ⟨hs, rfl⟩ := kept_some q
    obtain rfl := Fl.nx.inj e
    obtain ⟨f0, G0, p, E0⟩ := E.drop i
    have p2 : (f ++ F).Perm (f0 ++ (f ++ G0)) := (List.Perm.append_left _ p).trans perm_mid
    by_cases hl2 : i < σ.length
    · exact ⟨f ++ G0, E0.fill hl2 (h.stab hs), (ok.perm p2).tail, fun b hb => p2.mem_iff.mpr (List.mem_append_right _ hb), Kp.set hl⟩
    · have e1 : σ.set i (some v) = σ := List.set_eq_of_length_le (by omega)
      have e2 : Vs.put ρ i (some (x.m, x.d)) = ρ := put_over _ _ _ (by rw [← E.len]; omega)
      rw [e1, e2]
      exact ⟨F, E, ok.tail, fun b hb => List.mem_append_right _ hb, Kp.refl⟩
theorem gname_nx {i : Nat} {x : VV} {ρ : Vs.Env} : (∃ ρ', gname i x ρ = .nx ρ') ∨ gname i x ρ = .no := by
  unfold gname
  cases x.kept with
  | none => exact .inr rfl
  | some _ => exact .inl ⟨_, rfl⟩
theorem ss_par {i j : Nat} {x y : Str} {a b : Expr} {px py pt pos : Pos} {kt k2 pt2} (hc : X.calm = true) (hN : X.N.Nodup) (hi : X.N[i]? = some x) (hj : X.N[j]? = some y) (hij : i ≠ j) (hli : lent[i]? ≠ some true) (hlj : lent[j]? ≠ some true)
    (hx : X.env.scope.names.lookup x = some .local) (hy : X.env.scope.names.lookup y = some .local) (ha : SA ct X [a, b] gs)
    (hw : swappedStores [.Tuple [.Name x px, .Name y py] kt pt] (.Tuple [a, b] k2 pt2) X.env = pure (some [x, y]))
    (hs : swapsWithSole [.Tuple [.Name x px, .Name y py] kt pt] (.Tuple [a, b] k2 pt2) pos.line X.env = pure false := by rfl) : SS ct lent X (.Assign [.Tuple [.Name x px, .Name y py] kt pt] (.Tuple [a, b] k2 pt2) pos) (par i j gs) := by
  refine ⟨fun W tk po => ?_⟩
  obtain ⟨ta, pa, ra⟩ := ha.run W tk
  refine ⟨_, ps_par hc hN hi hj hij hx hy pa hw hs, fun S F H σ ρ D E ok G => ra S F H σ ρ _ E ok ?_⟩
  refine good_go G fun xs o vs S1 F1 H1 f st h E1 ok1 G => ?_
  split at G
  · rename_i x y
    obtain ⟨v, w, f1, f2, rfl, rfl, h1, h2⟩ := h.two
    refine ⟨v, w, rfl, ?_⟩
    rcases gname_nx (i := i) (x := x) (ρ := now o ρ) with ⟨ρ2, q⟩ | q
    · rw [q, seq_nx] at G
      have okA : Ok S1 H1 (f2 ++ (f1 ++ F1)) := ok1.perm (by rw [← List.append_assoc]; exact List.Perm.append_right _ List.perm_append_comm)
      obtain ⟨F2, E2, ok2, s2, kp2⟩ := store_at hli h1 E1 okA.tail q
      have okB : Ok S1 H1 (f2 ++ F2) := okA.head.two ok2 fun b hb z => okA.apart b hb (s2 b z)
      rcases gname_nx (i := j) (x := y) (ρ := ρ2) with ⟨ρ3, q3⟩ | q3
      · rw [q3] at G
        obtain ⟨F3, E3, ok3, s3, kp3⟩ := store_at hlj h2 E2 okB q3
        refine G _ S1 F3 H1 (st.less fun b hb => ?_) E3 ok3 (kp2.trans kp3)
        rcases List.mem_append.mp (s3 b hb) with z | z
        · exact List.mem_append_left _ (List.mem_append_right _ z)
        · rcases List.mem_append.mp (s2 b z) with z | z
          · exact List.mem_append_left _ (List.mem_append_left _ z)
          · exact List.mem_append_right _ z
      · rw [q3] at G
        exact G.elim
    · rw [q] at G
      exact G.elim
  · exact G.elim
end
section
variable {ct : Str → Addr} {X : Cx}
theorem call_len_rd : CallR X (.builtin "len") (fun xs H Q => ∃ d kvs, xs = [.ref d] ∧ Rd H d (.dK kvs) ∧ Q (.int kvs.length) H) := by
  intro pins s σ H xs us Q I r h
  obtain ⟨d, kvs, rfl, e, q⟩ := h
  obtain ⟨u, rfl, ru⟩ := r.one
  cases ru
  exact d_len I e fun t s' I' => ⟨.int kvs.length, H, I', ⟨t, rfl⟩, q⟩
theorem call_len_tt : CallR X (.builtin "len") (fun xs H Q => ∃ d kvs, xs = [.ref d] ∧ H d = some (.dT kvs) ∧ Q (.int kvs.length) H) := by
  intro pins s σ H xs us Q I r h
  obtain ⟨d, kvs, rfl, e, q⟩ := h
  exact call_len_dT pins s σ H _ us Q I r ⟨d, kvs, rfl, e, q⟩
theorem call_len4 : CallR X (.builtin "len") (fun xs H Q => (∃ p ys, xs = [.ref p] ∧ (SqL X.K H p ys ∨ SqT X.K H p ys) ∧ Q (.int ys.length) H) ∨ (∃ z, xs = [.str z] ∧ z.length ≤ sizeLine ∧ Q (.int z.length) H) ∨ (∃ d kvs, xs = [.ref d] ∧ Rd H d (.dK kvs) ∧ Q (.int kvs.length) H) ∨ (∃ d kvs, xs = [.ref d] ∧ H d = some (.dT kvs) ∧ Q (.int kvs.length) H)) :=
  CallR.or call_len_seq (CallR.or call_len_str (CallR.or call_len_rd call_len_tt))
/-- a name of the module that nothing changes -/
def Konst (K : PySem.W.Frag) (mg : Str → Option Value) (x : Str) (d : D) : Prop := ∃ (u : Value) (w : V), mg x = some u ∧ RelV w u ∧ ∀ S H, Rp K S H 0 w d []
theorem s_globC {d : D} {x : Str} {pos : Pos} (h : Konst X.K X.mg x d) (hg : Gl X x) (hdb : (x == ("__debug__" : Str)) = false := by decide) : SE ct X (.Name x pos) (cst ⟨false, 0, d⟩) := by
  obtain ⟨u, w, h1, h2, h3⟩ := h
  exact s_globD (w := w) rfl h3 hg h1 h2 hdb
end
section
variable {K : PySem.W.Frag} {S S' : Addr → Prop} {H H' : Hp}
/-- one item of a list is changed within -/
theorem item_ok {a u0 : Addr} {f f2 g1 g g2 h gx : List Addr} {zs : List V} {l : List D} {m m' j : Nat} {u : V} {d' : D} (hm : m' ≤ m) (hl : j < l.length) (hu : zs[j]? = some u) (ha : H a = some (.lst zs)) (ok : Ok S H (gx ++ (a :: (g1 ++ g ++ g2))))
    (r : RpAll K S H m (zs.set j .non) (l.set j .non) (g1 ++ [] ++ g2)) (st : Step S (gx ++ g) H S' (h ++ f2) H') (hr : Rp K S' H' m' u d' f2) (ok' : Ok S' H' (h ++ f2)) :
    ∃ S2 F2, Step S (gx ++ (a :: (g1 ++ g ++ g2))) H S2 (h ++ F2) H' ∧ Rp K S2 H' (m' + 1) (.ref a) (.lst (l.set j d')) F2 ∧ Ok S2 H' (h ++ F2) ∧ ∀ b, S' b → S2 b := by
  have p0 : (gx ++ (a :: (g1 ++ g ++ g2))).Perm ((a :: (g1 ++ g2)) ++ (gx ++ g)) := by
    exact List.perm_iff_count.mpr fun b => (by simp only [List.count_append, List.count_cons]; omega)
  have ok1 := ok.perm p0
  have kin : Ok S H (gx ++ g) := ok1.tail
  have apart := ok1.apart
  have haa : H' a = some (.lst zs) := st.keep _ _ ha (apart a (List.mem_cons_self ..))
  have r1 : RpAll K S' H' m (zs.set j .non) (l.set j .non) (g1 ++ [] ++ g2) := r.keep (fun b o hb e => st.keep b o e fun z => kin.ns b z hb) (fun b o e nm => st.keep b o e fun z => nm (e ▸ kin.mu b z)) st.sub fun b o hb e => st.keep b o e (apart b (List.mem_cons_of_mem _ (by simpa using hb)))
  obtain ⟨f0, f1, p1, r2⟩ := r1.thin m'
  rw [Nat.min_eq_right hm] at r2
  have hj : (l.set j D.non)[j]? = some .non := List.getElem?_set_self hl
  obtain ⟨w, h1, hg, h2, _, rfl, r3, r4, _⟩ := r2.at hj
  obtain ⟨rfl, _⟩ := r3.imm rfl
  have r5 := r4 u d' f2 (hr.more fun _ => .inl)
  rw [List.set_set, List.set_set] at r5
  have ez : zs.set j u = zs := by
    obtain ⟨q1, q2⟩ := List.getElem?_eq_some_iff.mp hu
    rw [← q2]
    exact List.set_getElem_self q1
  rw [ez] at r5
  have okj : Ok S' H' ((a :: (g1 ++ g2)) ++ (h ++ f2)) := Ok.join st ok1 ok'
  have pj : ((a :: (g1 ++ g2)) ++ (h ++ f2)).Perm ((h ++ (a :: (h1 ++ f2 ++ h2))) ++ f1) := by
    have p1' : (g1 ++ g2).Perm ((h1 ++ h2) ++ f1) := by simpa using p1
    have := List.perm_iff_count.mp p1'
    exact List.perm_iff_count.mpr fun b => (by
      have := this b
      simp only [List.count_append, List.count_cons] at this ⊢
      omega)
  have k2 := split_ok okj pj
  refine ⟨fun b => S' b ∨ b ∈ f1, a :: (h1 ++ f2 ++ h2), ?_, .lst1 haa r5, k2, fun _ => .inl⟩
  have st2 : Step S ((a :: (g1 ++ g2)) ++ (gx ++ g)) H S' ((a :: (g1 ++ g2)) ++ (h ++ f2)) H' := st.wide (fun b hb => List.mem_append_right _ hb) fun b hb => (List.mem_append.mp hb).elim (fun z => .inr (List.mem_append_left _ z)) .inl
  refine ⟨fun b o e hb => st2.keep b o e fun z => hb (p0.mem_iff.mpr z), fun b hb => .inl (st2.sub b hb), fun b hb => ?_, fun b hb => ?_⟩
  · exact (st2.newF b (pj.mem_iff.mpr (List.mem_append_left _ hb))).imp (fun z => p0.mem_iff.mpr z) id
  · rcases hb with hb | hb
    · exact (st2.newS b hb).imp id fun z => z.imp (fun z => p0.mem_iff.mpr z) id
    · exact .inr ((st2.newF b (pj.mem_iff.mpr (List.mem_append_right _ hb))).imp (fun z => p0.mem_iff.mpr z) id)
theorem itemOf_some {b : R VV} {m : Nat} {l l2 : List D} {j : Nat} (h : itemOf b m l = some (j, l2)) : ∃ bb mm jj, b = .ok ⟨bb, mm, .int jj⟩ none ∧ nix l.length jj = some j ∧ l[j]? = some (.lst l2) := by
  unfold itemOf at h
  split at h
  · rename_i bb mm jj
    cases q : nix l.length jj with
    | none => rw [q] at h; cases h
    | some j' =>
      rw [q] at h
      cases q2 : l[j']? with
      | none => simp only [q2] at h; cases h
      | some d =>
        simp only [q2] at h
        cases d with
        | lst l3 =>
          obtain ⟨rfl, rfl⟩ := Prod.mk.inj (Option.some.inj h)
          exact ⟨bb, mm, jj, rfl, q, q2⟩
        | _ => cases h
  · cases h
end
theorem s_recvI {i : Nat} {x : Str} {b : Expr} {es : List Expr} {gb : M} {ga : MA} {e : Expr} {p pb : Pos} {ct : Str → Addr} {X : Cx} {r : V → List V → Hp → VK → Prop} {k : PV → List VV → Option (VV × PV)} (ho : Recv1 X.K r k) (hb : SE ct X b gb) (ha : SA ct X es ga)
    (mk : ∀ {to t}, PE X (.Subscript (.Name x p) b pb) to → PA X es t → PE X e (tBM X.K "list" r to t))
    (hN : X.N[i]? = some x := by rfl) (hv : Vis X.env.scope x := by first | exact Or.inl rfl | exact Or.inr (Or.inl rfl) | exact Or.inr (Or.inr rfl)) (hd : (x == ("__debug__" : Str)) = false := by decide)
    (hcd : (x == ("__classdict__" : Str)) = false := by decide) (hs : PlainIx b := by exact fun _ _ => rfl) : SE ct X e (recvI i gb ga k) := by
  refine ⟨fun W tk => ?_⟩
  obtain ⟨tb, pb, rb⟩ := hb.run W tk
  obtain ⟨ta, pa, ra⟩ := ha.run W tk
  refine ⟨_, mk (pe_ix ix_seq (pv i hN hv hd hcd) pb hs) pa, fun S F H σ ρ Q E ok G => ?_⟩
  unfold recvI at G
  split at G
  · rename_i m l ql
    split at G
    · rename_i j l2 qi
      obtain ⟨bb, mm, jj, qb, qn, qj⟩ := itemOf_some qi
      obtain ⟨v0, f0, G0, h1, h2, pf, E2⟩ := E.take ql
      split at G
      · rename_i xs qa
        split at G
        · rename_i z pv' qk
          split at G
          · rename_i hm
            cases h2 with
            | lst1 hla hri =>
              rename_i a zs f'
              refine ⟨.ref a, h1, rb S F H σ ρ _ E ok ?_⟩
              rw [qb]
              intro y S1 F1 H1 gi t1 hy E1 k1
              obtain rfl := hy.int'
              obtain rfl := hy.nil_int
              obtain ⟨sm1, w1, w1', rfl, _⟩ := id t1
              have hri1 := (hri.same sm1).more w1
              obtain ⟨u, g1, g, g2, pu, rfl, hu, hset, _⟩ := hri1.at qj
              have hix : L2.atI zs jj = some u := by
                unfold L2.atI
                have e1 : ixN zs.length jj = some j := by rw [hri.length]; exact qn
                rw [e1]
                exact pu
              refine .inl ⟨a, zs, jj, u, rfl, rfl, .inl (.inl (sm1 _ _ hla)), hix, ?_, ?_⟩
              · obtain ⟨aa, ys, _, rfl, q1, _⟩ := hu.lst
                exact .inl ⟨rfl, ys, q1⟩
              · refine ra S1 F1 H1 σ ρ _ E1 k1 ?_
                rw [qa]
                intro vs S2 F2 H2 gx t2 hx E3 k2
                obtain ⟨sm2, w2, w2', rfl, _⟩ := id t2
                have hu2 := (hu.same sm2).more w2
                have hn2 := ((hset .non .non [] (.non _)).same sm2).more w2
                have E4 : EnvRp X.K S2 H2 σ (Vs.put ρ i none) G0 := (((E2.same sm1).more w1).same sm2).more w2
                have k3 : Ok S2 H2 ((gx ++ (a :: (g1 ++ g ++ g2))) ++ G0) := by
                  rw [List.append_assoc]
                  exact k2.perm (List.Perm.append_left _ pf)
                have kg : Ok S2 H2 (gx ++ g) := k3.head.sub (List.Sublist.append (List.Sublist.refl _) (((List.sublist_append_right g1 g).trans (List.sublist_append_left _ _)).trans (List.sublist_cons_self _ _)))
                refine ho S2 H2 (m, .lst l2) u g xs vs gx z pv' Q hu2 hx kg qk fun w H' S' h f2 st hw hr ok' => ?_
                have hl : j < l.length := (List.getElem?_eq_some_iff.mp qj).1
                obtain ⟨S3, F3, c1, c2, c3, c4⟩ := item_ok (u0 := a) (f := []) hm hl pu (sm2 _ _ (sm1 _ _ hla)) k3.head hn2 st hr ok'
                have E5 : EnvRp X.K S3 H' σ (Vs.put ρ i none) G0 := E4.step c1 k3.head fun b hb z => k3.apart b z hb
                have k4 : Ok S3 H' (G0 ++ (h ++ F3)) := Ok.join c1 (k3.perm List.perm_append_comm) c3
                have p5 : (G0 ++ (h ++ F3)).Perm (h ++ (F3 ++ G0)) := by
                  refine List.perm_append_comm.trans ?_
                  rw [List.append_assoc]
                refine G w S3 (F3 ++ G0) H' h ?_ (hw.more c4) (E5.back h1 c2) (k4.perm p5)
                refine (t1.step.trans t2.step).trans (c1.wide (fun b hb => ?_) fun b hb => ?_)
                · rcases List.mem_append.mp hb with z | z
                  · exact List.mem_append_left _ z
                  · exact List.mem_append_right _ (pf.mem_iff.mpr (List.mem_append_left _ z))
                · rcases List.mem_append.mp (p5.mem_iff.mpr hb) with z | z
                  · exact .inr (List.mem_append_right _ (pf.mem_iff.mpr (List.mem_append_right _ z)))
                  · exact .inl z
          · exact G.elim
        · exact G.elim
      · exact G.elim
    · exact G.elim
  · exact G.elim
end Vs
set_option maxHeartbeats 4000000
/-! Vs: repr of data. -/
namespace Vs
open PySem PySem.Spec PyProof.Rows L2
mutual
theorem noDict : ∀ d : D, d.flat = true → PyData.hasDict d.py = false
  | .non, _ => rfl
  | .bl _, _ => rfl
  | .int _, _ => rfl
  | .str _, _ => rfl
  | .lst l, h => by simp only [D.py, PyData.hasDict]; exact noDictAll l (by simpa [D.flat] using h)
  | .tup l, h => by simp only [D.py, PyData.hasDict]; exact noDictAll l (by simpa [D.flat] using h)
  | .dic _ _, h => by simp [D.flat] at h
  | .ins _ _, h => by simp [D.flat] at h
theorem noDictAll : ∀ l : List D, flatAll l = true → PyData.hasDictAll (pyAll l) = false
  | [], _ => rfl
  | d :: l, h => by
    unfold flatAll at h
    rw [Bool.and_eq_true] at h
    simp only [pyAll, PyData.hasDictAll, noDict d h.1, noDictAll l h.2, Bool.or_false]
end
section
variable {X : Cx}
theorem call_reprD (hgd : X.A.guards = some []) (hu : X.A.units + 65 < cLine) : CallR X (.builtin "repr") (fun xs H Q => ∃ x d, xs = [x] ∧ Dp X.K H x d ∧ d.showable = true ∧ d.hasDict = false ∧ d.depth ≤ 60 ∧ d.shown.length ≤ sizeLine ∧ Q (.str d.shown) H) := by
  intro pins s σ H xs us Q I r h
  obtain ⟨x, d, rfl, hd, hs, hn, hdp, hz, q⟩ := h
  cases r with
  | cons rv rt =>
    rename_i u t
    cases rt
    obtain ⟨as, rd⟩ := Dp.reads I d x u hd rv
    cases hd with
    | non =>
      cases rv
      exact PySem.P.repr_of_none ⟨.str _, H, I.tok _, ⟨_, rfl⟩, q⟩
    | bl b =>
      cases rv
      refine PySem.P.repr_of_bool ⟨.str _, H, I.tok _, ⟨_, rfl⟩, ?_⟩
      cases b <;> exact q
    | int i =>
      obtain ⟨t, rfl⟩ := rv
      exact PySem.P.repr_of_int (by rw [PyData.showable.eq_4] at hs; exact of_decide_eq_true hs) ⟨.str _, H, I.tok _, ⟨_, rfl⟩, q⟩
    | str z =>
      obtain ⟨t, rfl⟩ := rv
      exact PySem.P.repr_of_str ⟨.str _, H, I.tok _, ⟨_, rfl⟩, q⟩ hz
    | lst _ _ =>
      cases rv
      exact repr_of_reads' rd hs (fun z => by rw [hn] at z; cases z) hgd (by omega) (fun _ _ e => e) (fun h' u tk hk => ⟨.str _, H, I.kept hk, ⟨_, rfl⟩, q⟩) hz
    | tup _ _ =>
      cases rv
      exact repr_of_reads' rd hs (fun z => by rw [hn] at z; cases z) hgd (by omega) (fun _ _ e => e) (fun h' u tk hk => ⟨.str _, H, I.kept hk, ⟨_, rfl⟩, q⟩) hz
end
/-! ### dicts of plain things -/
def keyD : Key → PyData
  | .inl i => .int i | .inr x => .str x
theorem reads_key {P : Program} {w : World} {h : Heap} : ∀ (k : Key) (key : Value), (mixKind P w).is k key = true → Reads h key (keyD k) [] := fun k key hk => by
  rcases keyIs_shape hk with ⟨i, t, rfl, rfl⟩ | ⟨x, t, rfl, rfl⟩
  · exact .int _ _
  · exact .str _ _
/-- plain -/
inductive ImmV : V → PyData → Prop
  | non : ImmV .non .none | bl (b : Bool) : ImmV (.bl b) (.bool b) | int (i : Int) : ImmV (.int i) (.int i) | str (x : Str) : ImmV (.str x) (.str x)
theorem ImmV.reads {h : Heap} {v : V} {d : PyData} {u : Value} (i : ImmV v d) (r : RelV v u) : Reads h u d [] := by
  cases i with
  | non => cases r; exact .none
  | bl b => cases r; exact .bool _
  | int i => obtain ⟨t, rfl⟩ := r; exact .int _ _
  | str x => obtain ⟨t, rfl⟩ := r; exact .str _ _
theorem pairs_read {h : Heap} : ∀ {kvs : List (Key × V)} {vs : List (Key × Value)} {ds : List PyData}, KV kvs vs → Paired (fun p d => ImmV p.2 d) kvs ds → PyProof.V.PairsRead h keyD vs ((kvs.map fun p => keyD p.1).zip ds) [] := by
  intro kvs vs ds hk hp
  unfold KV at hk
  induction hp generalizing vs with
  | nil => cases hk; exact .nil
  | cons hi _ ih =>
    cases hk with
    | cons r rs =>
      rename_i b _
      obtain ⟨k', v'⟩ := b
      obtain ⟨e, r2⟩ := r
      simp only at e
      subst e
      exact PyProof.V.PairsRead.cons (as := []) (bs := []) (hi.reads r2) (ih rs)
section
variable {X : Cx}
def rReprK : List V → Hp → VK → Prop := fun xs H Q => ∃ (a : Addr) (kvs : List (Key × V)) (ds : List PyData) (d : PyData), xs = [.ref a] ∧ Rd H a (.dK kvs) ∧ Paired (fun p d => ImmV p.2 d) kvs ds ∧ d = .dict ((kvs.map fun p => keyD p.1).zip ds) ∧ d.showable = true ∧ d.depth ≤ 60 ∧ d.shown.length ≤ sizeLine ∧ Q (.str d.shown) H
theorem call_reprK (hgd : X.A.guards = some []) (hu : X.A.units + 65 < cLine) : CallR X (.builtin "repr") rReprK := by
  intro pins s σ H xs us Q I r h
  obtain ⟨a, kvs, ds, d, rfl, hq, hp, rfl, hs, hdp, hz, q⟩ := h
  cases r with
  | cons rv rt =>
    cases rt
    cases rv
    obtain ⟨_, hsm, vs, hk, dd⟩ := dk_rd I.hok hq
    have rd := PyProof.V.reads_dictOf (reads_key (P := X.prog) (w := X.w)) dd (pairs_read hk hp)
    refine repr_of_reads' rd hs (fun _ z => ?_) hgd (by omega) (fun _ _ e => e) (fun h' u tk hk => ⟨.str _, H, I.kept hk, ⟨_, rfl⟩, q⟩) hz
    rw [List.mem_singleton] at z
    rw [← z] at hsm
    simp at hsm
theorem call_repr2 (hgd : X.A.guards = some []) (hu : X.A.units + 65 < cLine) : CallR X (.builtin "repr") (fun xs H Q => (∃ x d, xs = [x] ∧ Dp X.K H x d ∧ d.showable = true ∧ d.hasDict = false ∧ d.depth ≤ 60 ∧ d.shown.length ≤ sizeLine ∧ Q (.str d.shown) H) ∨ rReprK xs H Q) := CallR.or (call_reprD hgd hu) (call_reprK hgd hu)
end
theorem Rp.immV {K : PySem.W.Frag} {S : Addr → Prop} {H : Hp} {m : Nat} {v : V} {d : D} {f : List Addr} (h : Rp K S H m v d f) (hi : d.imm = true) : ImmV v d.py := by
  cases d with
  | non => cases h; exact .non
  | bl b => cases h; exact .bl b
  | int i => cases h; exact .int i
  | str x => cases h; exact .str x
  | _ => cases hi
theorem RpAll.immAll {K : PySem.W.Frag} {S : Addr → Prop} {H : Hp} {m : Nat} : ∀ {kvs : List (Key × V)} {ds : List D} {f : List Addr}, RpAll K S H m (kvs.map (·.2)) ds f → (((kvs.map fun p => kD p.1).zip ds).all fun p => p.2.imm) = true → Paired (fun p d => ImmV p.2 d) kvs (ds.map D.py)
  | [], ds, f, h, _ => by cases h; exact .nil
  | p :: kvs, ds, f, h, hi => by
    cases h with
    | cons h1 h2 =>
      rw [List.map_cons, List.zip_cons_cons, List.all_cons, Bool.and_eq_true] at hi
      exact .cons (h1.immV hi.1) (RpAll.immAll h2 hi.2)
theorem pyKv_zip : ∀ (kvs : List (Key × V)) (ds : List D), pyKv ((kvs.map fun p => kD p.1).zip ds) = (kvs.map fun p => keyD p.1).zip (ds.map D.py)
  | [], ds => by simp [pyKv]
  | p :: kvs, [] => by simp [pyKv]
  | p :: kvs, d :: ds => by
    rw [List.map_cons, List.zip_cons_cons, pyKv, pyKv_zip kvs ds, List.map_cons, List.map_cons, List.zip_cons_cons]
    congr 1
    congr 1
    cases p.1 <;> rfl
section
variable {K : PySem.W.Frag} {S S' : Addr → Prop} {H : Hp} {f g : List Addr} {Q : VK}
theorem kRepr_op : OpN K (fun xs H Q => (∃ x d, xs = [x] ∧ Dp K H x d ∧ d.showable = true ∧ d.hasDict = false ∧ d.depth ≤ 60 ∧ d.shown.length ≤ sizeLine ∧ Q (.str d.shown) H) ∨ rReprK xs H Q) kRepr := by
  refine opn_one (fun xs z e => ?_) fun S H x v f z Q h ok e hQ => ?_
  · unfold kRepr at e
    split at e
    · exact ⟨_, rfl⟩
    · cases e
  · unfold kRepr at e
    simp only at e
    split at e
    · rename_i c
      obtain rfl := Option.some.inj e
      unfold D.shw at c
      simp only [Bool.and_eq_true, decide_eq_true_eq] at c
      obtain ⟨⟨⟨c0, c1⟩, c2⟩, c3⟩ := c
      obtain ⟨g, hr⟩ := h.rp
      exact .inl ⟨v, x.d.py, rfl, hr.dp c0, c1, noDict _ c0, c3, by rw [← Vs.lim_eq]; exact c2, ret_imm ok rfl (.str _ _) hQ⟩
    · split at e
      · rename_i c
        obtain rfl := Option.some.inj e
        obtain ⟨g, hr⟩ := h.rp
        obtain ⟨xb, xm, xd⟩ := x
        unfold D.shwK at c
        split at c
        · rename_i l el
          obtain rfl : xd = .dic false l := el
          simp only [Bool.and_eq_true, decide_eq_true_eq] at c
          obtain ⟨⟨⟨c0, c1⟩, c2⟩, c3⟩ := c
          replace hr : Rp K S H xm v (.dic false l) g := hr
          have key : ∃ (a : Addr) (kvs : List (Key × V)) (ds : List D) (g' : List Addr) (n : Nat), v = .ref a ∧ l = (kvs.map fun p => kD p.1).zip ds ∧ Rd H a (.dK kvs) ∧ RpAll K S H n (kvs.map (·.2)) ds g' := by
            generalize hd : D.dic false l = d at hr
            cases hr with
            | dk0 q s r =>
              obtain ⟨_, rfl⟩ := D.dic.inj hd
              exact ⟨_, _, _, _, _, rfl, rfl, q, r⟩
            | dk1 q r =>
              obtain ⟨_, rfl⟩ := D.dic.inj hd
              exact ⟨_, _, _, _, _, rfl, rfl, .inl q, r⟩
            | dt0 q s r => cases (D.dic.inj hd).1
            | dt1 q r => cases (D.dic.inj hd).1
            | _ => cases hd
          obtain ⟨a, kvs, ds, g', n, rfl, rfl, hq, ra⟩ := key
          have hi : (((kvs.map fun p => kD p.1).zip ds).all fun p => p.2.imm) = true := by
            rw [List.all_eq_true] at c0 ⊢
            intro p hp
            have := c0 p hp
            rw [Bool.and_eq_true] at this
            exact this.2
          refine .inr ⟨a, kvs, ds.map D.py, _, rfl, hq, ra.immAll hi, ?_, c1, c3, by rw [← Vs.lim_eq]; exact c2, ret_imm ok rfl (.str _ _) hQ⟩
          show PyData.dict (pyKv _) = _
          rw [pyKv_zip]
        · cases c
      · cases e
end
end Vs
set_option maxHeartbeats 4000000
/-! Vs: loops that are run; what is computed with a bound on the turns is what is computed. -/
namespace Vs
open PySem (Str PyData)
theorem whileN_more {c : MT} {b : MS} : ∀ {n : Nat} {ρ : Env}, whileN c b n ρ ≠ .no → whileN c b (n + 1) ρ = whileN c b n ρ
  | 0, ρ, h => absurd rfl h
  | n + 1, ρ, h => by
    unfold whileN at h ⊢
    cases q : c ρ with
    | no => rfl
    | ex e ρ' => rfl
    | ok x o =>
      rw [q] at h
      simp only [go_ok] at h ⊢
      by_cases hx : x = true
      · rw [if_pos hx] at h ⊢
        rw [if_pos hx]
        cases q2 : b (now o ρ) with
        | nx ρ2 => rw [q2] at h; exact whileN_more h
        | ct ρ2 => rw [q2] at h; exact whileN_more h
        | _ => rfl
      · rw [if_neg hx]
        rw [if_neg hx]
theorem whileN_le {c : MT} {b : MS} {n m : Nat} {ρ : Env} (h : whileN c b n ρ ≠ .no) (hm : n ≤ m) : whileN c b m ρ = whileN c b n ρ := by
  induction hm with
  | refl => rfl
  | step _ ih => rw [whileN_more (by rw [ih]; exact h), ih]
theorem whiles_eq {c : MT} {b : MS} {n : Nat} {ρ : Env} (h : whileN c b n ρ ≠ .no) : whiles c b ρ = whileN c b n ρ := by
  have hx : ∃ n, whileN c b n ρ ≠ .no := ⟨n, h⟩
  unfold whiles
  rw [dif_pos hx]
  have h2 := hx.choose_spec
  rcases Nat.le_total n hx.choose with z | z
  · exact whileN_le h z
  · exact (whileN_le h2 z).symm
/-- one turn -/
theorem whiles_step {c : MT} {b : MS} {ρ : Env} : whiles c b ρ = (c ρ).go ρ fun x ρ1 => if x = true then (match b ρ1 with
    | .nx ρ2 => whiles c b ρ2 | .ct ρ2 => whiles c b ρ2 | .brk ρ2 => .nx ρ2 | .ret x ρ2 => .ret x ρ2 | .ex e ρ2 => .ex e ρ2 | .no => .no) else .nx ρ1 := by
  by_cases hx : ∃ n, whileN c b n ρ ≠ .no
  · obtain ⟨n, h⟩ := hx
    rw [whiles_eq h]
    cases n with
    | zero => exact absurd rfl h
    | succ n =>
      unfold whileN at h ⊢
      cases q : c ρ with
      | no => rfl
      | ex e ρ' => rfl
      | ok x o =>
        rw [q] at h
        simp only [go_ok] at h ⊢
        by_cases hx : x = true
        · rw [if_pos hx] at h
          rw [if_pos hx, if_pos hx]
          cases q2 : b (now o ρ) with
          | nx ρ2 => rw [q2] at h; exact (whiles_eq h).symm
          | ct ρ2 => rw [q2] at h; exact (whiles_eq h).symm
          | _ => rfl
        · rw [if_neg hx, if_neg hx]
  · have e : whiles c b ρ = .no := by
      unfold whiles
      rw [dif_neg hx]
    rw [e]
    cases q : c ρ with
    | no => rfl
    | ex e ρ' => exact absurd ⟨1, by unfold whileN; rw [q]; simp⟩ hx
    | ok x o =>
      rw [go_ok]
      by_cases hb : x = true
      · rw [if_pos hb]
        have step : ∀ n, whileN c b (n + 1) ρ = (match b (now o ρ) with
            | .nx ρ2 => whileN c b n ρ2 | .ct ρ2 => whileN c b n ρ2 | .brk ρ2 => .nx ρ2 | .ret x ρ2 => .ret x ρ2 | .ex e ρ2 => .ex e ρ2 | .no => .no) := fun n => by
          conv => lhs; unfold whileN
          rw [q, go_ok, if_pos hb]
          all_goals (cases b (now o ρ) <;> rfl)
        cases q2 : b (now o ρ) with
        | no => rfl
        | nx ρ2 =>
          by_cases h2 : ∃ n, whileN c b n ρ2 ≠ .no
          · obtain ⟨n, h2⟩ := h2
            exact absurd ⟨n + 1, by rw [step, q2]; exact h2⟩ hx
          · show Fl.no = whiles c b ρ2
            unfold whiles
            rw [dif_neg h2]
        | ct ρ2 =>
          by_cases h2 : ∃ n, whileN c b n ρ2 ≠ .no
          · obtain ⟨n, h2⟩ := h2
            exact absurd ⟨n + 1, by rw [step, q2]; exact h2⟩ hx
          · show Fl.no = whiles c b ρ2
            unfold whiles
            rw [dif_neg h2]
        | brk ρ2 => exact absurd ⟨1, by rw [step, q2]; simp⟩ hx
        | ret x ρ2 => exact absurd ⟨1, by rw [step, q2]; simp⟩ hx
        | ex e ρ2 => exact absurd ⟨1, by rw [step, q2]; simp⟩ hx
      · exact absurd ⟨1, by unfold whileN; rw [q, go_ok, if_neg hb]; simp⟩ hx
/-! ### what comes to something with fewer turns comes to the same -/
def leR {α : Type} (r s : R α) : Prop := r = .no ∨ r = s
def leF (r s : Fl) : Prop := r = .no ∨ r = s
def leM {α : Type} (f g : Env → R α) : Prop := ∀ ρ, leR (f ρ) (g ρ)
def leS (f g : MS) : Prop := ∀ ρ, leF (f ρ) (g ρ)
def leG (f g : MG) : Prop := ∀ x ρ, leF (f x ρ) (g x ρ)
def leC (f g : List PV → RF) : Prop := ∀ p, f p = .no ∨ f p = g p
section
variable {α β : Type}
theorem leR.rf {r : R α} : leR r r := .inr rfl
theorem leF.rf {r : Fl} : leF r r := .inr rfl
theorem leM.rf {f : Env → R α} : leM f f := fun _ => .inr rfl
theorem leS.rf {f : MS} : leS f f := fun _ => .inr rfl
theorem leG.rf {f : MG} : leG f f := fun _ _ => .inr rfl
theorem le_aft {r s : R α} {o : Option Env} (h : leR r s) : leR (r.aft o) (s.aft o) := by
  rcases h with rfl | rfl
  · exact .inl rfl
  · exact .inr rfl
theorem le_bind {r s : R α} {k k' : α → Env → R β} {ρ : Env} (h : leR r s) (hk : ∀ a ρ, leR (k a ρ) (k' a ρ)) : leR (r.bind ρ k) (s.bind ρ k') := by
  rcases h with rfl | rfl
  · exact .inl rfl
  · cases r with
    | no => exact .inl rfl
    | ex e ρ' => exact .inr rfl
    | ok a o => exact le_aft (hk a _)
theorem le_nxt {r s : R α} {k k' : α → R β} {b : Bool} (h : leR r s) (hk : ∀ a, leR (k a) (k' a)) : leR (r.nxt b k) (s.nxt b k') := by
  rcases h with rfl | rfl
  · exact .inl rfl
  · cases r with
    | no => exact .inl rfl
    | ex e ρ' => exact .inr rfl
    | ok a o =>
      rw [R.nxt_ok, R.nxt_ok]
      split
      · exact le_aft (hk a)
      · exact .inl rfl
theorem le_go {r s : R α} {k k' : α → Env → Fl} {ρ : Env} (h : leR r s) (hk : ∀ a ρ, leF (k a ρ) (k' a ρ)) : leF (r.go ρ k) (s.go ρ k') := by
  rcases h with rfl | rfl
  · exact .inl rfl
  · cases r with
    | no => exact .inl rfl
    | ex e ρ' => exact .inr rfl
    | ok a o => exact hk a _
theorem le_seq {f g : Fl} {k k' : MS} (h : leF f g) (hk : leS k k') : leF (f.seq k) (g.seq k') := by
  rcases h with rfl | rfl
  · exact .inl rfl
  · cases f with
    | nx ρ => exact hk ρ
    | no => exact .inl rfl
    | _ => exact .inr rfl
theorem le_sq {a a' b b' : MS} (h : leS a a') (k : leS b b') : leS (sq a b) (sq a' b') := fun ρ => le_seq (h ρ) k
theorem le_asg {e e' : M} {g g' : MG} (h : leM e e') (k : leG g g') : leS (asg e g) (asg e' g') := fun ρ => le_go (h ρ) fun x ρ1 => k x ρ1
theorem le_ex {e e' : M} (h : leM e e') : leS (ex e) (ex e') := fun ρ => le_go (h ρ) fun _ _ => .inr rfl
theorem le_ret {e e' : M} (h : leM e e') : leS (ret e) (ret e') := fun ρ => le_go (h ρ) fun _ _ => .inr rfl
theorem le_ifs {c c' : MT} {a a' b b' : MS} (h : leM c c') (k : leS a a') (l : leS b b') : leS (ifs c a b) (ifs c' a' b') := fun ρ => le_go (h ρ) fun x ρ1 => by
  cases x with
  | true => exact k ρ1
  | false => exact l ρ1
theorem le_two {a a' b b' : M} {k : VV → VV → Option VV} (h : leM a a') (l : leM b b') : leM (two a b k) (two a' b' k) := fun ρ => le_bind (h ρ) fun x ρ1 => le_nxt (l ρ1) fun _ => .inr rfl
theorem le_one {a a' : M} {k : VV → Option VV} (h : leM a a') : leM (one a k) (one a' k) := fun ρ => le_bind (h ρ) fun _ _ => .inr rfl
theorem le_anil : leM (args []) (args []) := leM.rf
theorem le_acons {a a' : M} {as as' : List M} (h : leM a a') (l : leM (args as) (args as')) : leM (args (a :: as)) (args (a' :: as')) := fun ρ => by
  unfold args
  exact le_bind (h ρ) fun x ρ1 => le_nxt (l ρ1) fun _ => .inr rfl
theorem le_argsk {a a' : MA} {k : List VV → Option VV} (h : leM a a') : leM (argsk a k) (argsk a' k) := fun ρ => le_bind (h ρ) fun _ _ => .inr rfl
theorem le_tst {a a' : M} {k : D → Option Bool} (h : leM a a') : leM (tst a k) (tst a' k) := fun ρ => le_bind (h ρ) fun _ _ => .inr rfl
theorem le_tnot {a a' : MT} (h : leM a a') : leM (tnot a) (tnot a') := fun ρ => le_bind (h ρ) fun _ _ => .inr rfl
theorem le_tand {a a' b b' : MT} (h : leM a a') (l : leM b b') : leM (tand a b) (tand a' b') := fun ρ => le_bind (h ρ) fun x ρ1 => by
  cases x with
  | true => exact l ρ1
  | false => exact .inr rfl
theorem le_tor {a a' b b' : MT} (h : leM a a') (l : leM b b') : leM (tor a b) (tor a' b') := fun ρ => le_bind (h ρ) fun x ρ1 => by
  cases x with
  | true => exact .inr rfl
  | false => exact l ρ1
theorem le_ift {c c' : MT} {a a' b b' : M} (h : leM c c') (k : leM a a') (l : leM b b') : leM (ift c a b) (ift c' a' b') := fun ρ => le_bind (h ρ) fun x ρ1 => by
  cases x with
  | true => exact k ρ1
  | false => exact l ρ1
theorem le_whileN {c c' : MT} {b b' : MS} (h : leM c c') (l : leS b b') : ∀ n, leS (whileN c b n) (whileN c' b' n)
  | 0 => fun _ => .inl rfl
  | n + 1 => fun ρ => by
    unfold whileN
    refine le_go (h ρ) fun x ρ1 => ?_
    cases x with
    | false => exact .inr rfl
    | true =>
      rw [if_pos rfl, if_pos rfl]
      rcases l ρ1 with e | e
      · rw [e]; exact .inl rfl
      · rw [e]
        cases b' ρ1 with
        | nx ρ2 => exact le_whileN h l n ρ2
        | ct ρ2 => exact le_whileN h l n ρ2
        | no => exact .inl rfl
        | _ => exact .inr rfl
theorem le_whiles {c c' : MT} {b b' : MS} (n : Nat) (h : leM c c') (l : leS b b') : leS (whileN c b n) (whiles c' b') := fun ρ => by
  by_cases hn : whileN c b n ρ = .no
  · exact .inl hn
  · rcases le_whileN h l n ρ with e | e
    · exact absurd e hn
    · right
      rw [e]
      exact (whiles_eq (by rw [← e]; exact hn)).symm
theorem le_forL {g g' : MG} {b b' : MS} (h : leG g g') (l : leS b b') : ∀ (ds : List D) (ρ : Env), leF (forL g b ds ρ) (forL g' b' ds ρ)
  | [], _ => .inr rfl
  | d :: ds, ρ => by
    unfold forL
    rcases le_seq (h ⟨false, 0, d⟩ ρ) l with e | e
    · rw [e]; exact .inl rfl
    · rw [e]
      cases (g' ⟨false, 0, d⟩ ρ).seq b' with
      | nx ρ2 => exact le_forL h l ds ρ2
      | ct ρ2 => exact le_forL h l ds ρ2
      | no => exact .inl rfl
      | _ => exact .inr rfl
theorem le_fors {i i' : MI} {g g' : MG} {b b' : MS} (k : leM i i') (h : leG g g') (l : leS b b') : leS (fors i g b) (fors i' g' b') := fun ρ => le_go (k ρ) fun ds ρ1 => le_forL h l ds ρ1
theorem le_it1 {k : VV → Option (List D)} {e e' : M} (h : leM e e') : leM (it1 k e) (it1 k e') := fun ρ => le_bind (h ρ) fun _ _ => .inr rfl
theorem le_itN {k : List VV → Option (List D)} {e e' : MA} (h : leM e e') : leM (itN k e) (itN k e') := fun ρ => le_bind (h ρ) fun _ _ => .inr rfl
theorem le_fnM {n : Nat} {lent : List Bool} {b b' : MS} (h : leS b b') : leC (fnM n lent b) (fnM n lent b') := fun p => by
  unfold fnM
  rcases h (p.map some ++ List.replicate (n - p.length) none) with e | e
  · rw [e]; exact .inl rfl
  · rw [e]; exact .inr rfl
theorem le_cnil : leM (cargs []) (cargs []) := leM.rf
theorem le_clend {i : Nat} {as as' : List AK} (l : leM (cargs as) (cargs as')) : leM (cargs (.lend i :: as)) (cargs (.lend i :: as')) := fun ρ => by
  unfold cargs
  cases look ρ i with
  | none => exact .inl rfl
  | some _ => exact le_bind (l ρ) fun _ _ => .inr rfl
theorem le_cval {e e' : M} {as as' : List AK} (h : leM e e') (l : leM (cargs as) (cargs as')) : leM (cargs (.val e :: as)) (cargs (.val e' :: as')) := fun ρ => by
  unfold cargs
  refine le_bind (h ρ) fun x ρ1 => ?_
  cases x.kept with
  | none => exact .inl rfl
  | some _ => exact le_bind (l ρ1) fun _ _ => .inr rfl
theorem le_call {f f' : List PV → RF} {df : List PV} {as as' : List AK} (h : leC f f') (l : leM (cargs as) (cargs as')) : leM (call f df as) (call f' df as') := fun ρ => by
  unfold call
  refine le_bind (l ρ) fun avs ρ1 => ?_
  unfold callG
  cases grab (avs ++ df.map .o) ρ1 with
  | none => exact .inl rfl
  | some z =>
    obtain ⟨pvs, ρ2⟩ := z
    rcases h pvs with e | e
    · simp only [e]
      split <;> exact .inl rfl
    · simp only [e]
      exact .inr rfl
theorem le_byK {f f' : List PV → RF} {is js : List Nat} (h : leC f f') : leC (byK is js f) (byK is js f') := fun p => by
  unfold byK
  rcases h (sel is p) with e | e
  · rw [e]; exact .inl rfl
  · rw [e]; exact .inr rfl
theorem le_recv {i : Nat} {as as' : MA} {k : PV → List VV → Option (VV × PV)} (h : leM as as') : leM (recv i as k) (recv i as' k) := fun ρ => by
  unfold recv
  split
  · exact le_bind (h ρ) fun _ _ => .inr rfl
  · exact .inl rfl
theorem le_meth {ty : D → Bool} {o o' : M} {as as' : MA} {k : VV → List VV → Option VV} (h : leM o o') (l : leM as as') : leM (meth ty o as k) (meth ty o' as' k) := fun ρ => le_bind (h ρ) fun x ρ1 => by
  split
  · exact le_nxt (l ρ1) fun _ => .inr rfl
  · exact .inl rfl
theorem le_compL {own : List Nat} {g : MG} {cs cs' : MT} {e e' : M} (h : leM cs cs') (l : leM e e') : ∀ (ds : List D) (ρ : Env) (acc : List VV), leR (compL own g cs e ds ρ acc) (compL own g cs' e' ds ρ acc)
  | [], _, _ => .inr rfl
  | d :: ds, ρ, acc => by
    unfold compL
    cases g ⟨false, 0, d⟩ ρ with
    | nx ρ1 =>
      simp only
      rcases h ρ1 with q | q
      · rw [q]; exact .inl rfl
      · rw [q]
        cases cs' ρ1 with
        | ok b o1 =>
          cases b with
          | false => exact le_aft (le_compL h l ds _ _)
          | true =>
            simp only
            rcases l (now o1 ρ1) with q | q
            · rw [q]; exact .inl rfl
            · rw [q]
              cases e' (now o1 ρ1) with
              | ok x o2 =>
                simp only
                split
                · exact le_aft (le_compL h l ds _ _)
                · exact .inl rfl
              | _ => exact .inr rfl
        | _ => exact .inr rfl
    | _ => exact .inr rfl
theorem le_comp {i i' : MI} {g : MG} {cs cs' : MT} {e e' : M} {own : List Nat} (k : leM i i') (h : leM cs cs') (l : leM e e') : leM (comp i g cs e own) (comp i' g cs' e' own) := fun ρ => le_bind (k ρ) fun ds ρ1 => by
  rcases le_compL h l ds (wipeE own ρ1) [] with q | q
  · rw [q]; exact .inl rfl
  · rw [q]; exact .inr rfl
theorem le_vand {a a' b b' : M} (h : leM a a') (l : leM b b') : leM (vand a b) (vand a' b') := fun ρ => le_bind (h ρ) fun x ρ1 => by
  split
  · exact l ρ1
  · exact .inr rfl
  · exact .inr rfl
theorem le_vor {a a' b b' : M} (h : leM a a') (l : leM b b') : leM (vor a b) (vor a' b') := fun ρ => le_bind (h ρ) fun x ρ1 => by
  split
  · exact .inr rfl
  · exact l ρ1
  · exact .inr rfl
theorem le_fz {k : Nat} {is : List Nat} {e e' : M} (h : leM e e') : leM (fz k is e) (fz k is e') := fun ρ => by
  unfold fz
  split
  · exact h ρ
  · exact le_aft (h _)
theorem le_peek {is : List Nat} {e e' : M} (h : leM e e') : leM (peek is e) (peek is e') := fun ρ => by
  unfold peek
  rcases h (thin 0 is ρ) with q | q
  · rw [q]; exact .inl rfl
  · rw [q]; exact .inr rfl
theorem le_soft {is : List Nat} {e e' : M} (h : leM e e') : leM (soft is e) (soft is e') := fun ρ => by
  unfold soft
  rcases h (thin 0 is ρ) with z | z
  · rw [z]; exact .inl rfl
  · rw [z]
    split
    · exact .inl rfl
    · split
      · exact .inr rfl
      · exact le_fz h ρ
    · exact le_fz h ρ
theorem le_gset {i : Nat} {b b' : M} (h : leM b b') : leG (gset i b) (gset i b') := fun x ρ => by
  unfold gset
  cases look ρ i with
  | none => exact .inl rfl
  | some _ => exact le_go (h ρ) fun _ _ => .inr rfl
theorem le_chain {a a' b b' c c' : M} {φ ψ : Int → Int → Bool} (h : leM a a') (l : leM b b') (k : leM c c') : leM (chain a b c φ ψ) (chain a' b' c' φ ψ) := fun ρ => le_bind (h ρ) fun x ρ1 => le_bind (l ρ1) fun y ρ2 => by
  split
  · split
    · exact le_bind (k ρ2) fun _ _ => .inr rfl
    · exact .inr rfl
  · exact .inl rfl
theorem le_par {i j : Nat} {as as' : MA} (h : leM as as') : leS (par i j as) (par i j as') := fun ρ => le_go (h ρ) fun _ _ => .inr rfl
theorem le_recvI {i : Nat} {b b' : M} {as as' : MA} {k : PV → List VV → Option (VV × PV)} (h : leM b b') (l : leM as as') : leM (recvI i b as k) (recvI i b' as' k) := fun ρ => by
  unfold recvI
  split
  · rcases h ρ with q | q
    · rw [q]; exact .inl rfl
    · rw [q]
      split
      · rcases l ρ with q | q
        · rw [q]; exact .inl rfl
        · rw [q]; exact .inr rfl
      · exact .inl rfl
  · exact .inl rfl
theorem leC.use {f g : List PV → RF} {p : List PV} {r : RF} (h : leC f g) (e : f p = r) (hr : r ≠ .no) : g p = r := by
  rcases h p with q | q
  · exact absurd (e.symm.trans q) hr
  · rw [← q, e]
end
/-! ### the same, computed -/
def whileF (n : Nat) (c : MT) (b : MS) : MS := whileN c b n
theorem le_whileF {c c' : MT} {b b' : MS} {n : Nat} (h : leM c c') (l : leS b b') : leS (whileF n c b) (whiles c' b') := le_whiles n h l
mutual
def D.same : D → D → Bool
  | .non, .non => true
  | .bl a, .bl b => a == b
  | .int a, .int b => decide (a = b)
  | .str a, .str b => decide (a = b)
  | .lst a, .lst b => sameAll a b
  | .tup a, .tup b => sameAll a b
  | _, _ => false
def sameAll : List D → List D → Bool
  | [], [] => true
  | a :: as, b :: bs => D.same a b && sameAll as bs
  | _, _ => false
end
mutual
theorem D.same_eq : ∀ {a b : D}, D.same a b = true → a = b
  | .non, b, h => by cases b <;> first | rfl | (unfold D.same at h; cases h)
  | .bl a, b, h => by
    cases b with
    | bl b => unfold D.same at h; rw [eq_of_beq h]
    | _ => unfold D.same at h; cases h
  | .int a, b, h => by
    cases b with
    | int b => unfold D.same at h; rw [of_decide_eq_true h]
    | _ => unfold D.same at h; cases h
  | .str a, b, h => by
    cases b with
    | str b => unfold D.same at h; rw [of_decide_eq_true h]
    | _ => unfold D.same at h; cases h
  | .lst a, b, h => by
    cases b with
    | lst b => unfold D.same at h; rw [sameAll_eq h]
    | _ => unfold D.same at h; cases h
  | .tup a, b, h => by
    cases b with
    | tup b => unfold D.same at h; rw [sameAll_eq h]
    | _ => unfold D.same at h; cases h
  | .dic _ a, b, h => by cases b <;> (unfold D.same at h; cases h)
  | .ins c a, b, h => by cases b <;> (unfold D.same at h; cases h)
theorem sameAll_eq : ∀ {a b : List D}, sameAll a b = true → a = b
  | [], [], _ => rfl
  | [], _ :: _, h => by unfold sameAll at h; cases h
  | _ :: _, [], h => by unfold sameAll at h; cases h
  | a :: as, b :: bs, h => by
    unfold sameAll at h
    rw [Bool.and_eq_true] at h
    rw [D.same_eq h.1, sameAll_eq h.2]
end
def sameE : Env → Env → Bool
  | [], [] => true
  | none :: as, none :: bs => sameE as bs
  | some a :: as, some b :: bs => decide (a.1 = b.1) && D.same a.2 b.2 && sameE as bs
  | _, _ => false
theorem sameE_eq : ∀ {a b : Env}, sameE a b = true → a = b
  | [], [], _ => rfl
  | [], _ :: _, h => by unfold sameE at h; cases h
  | none :: _, [], h => by unfold sameE at h; cases h
  | some _ :: _, [], h => by unfold sameE at h; cases h
  | none :: as, none :: bs, h => by unfold sameE at h; rw [sameE_eq h]
  | none :: as, some _ :: bs, h => by unfold sameE at h; cases h
  | some _ :: as, none :: bs, h => by unfold sameE at h; cases h
  | some (m, d) :: as, some (n, e) :: bs, h => by
    unfold sameE at h
    rw [Bool.and_eq_true, Bool.and_eq_true] at h
    have h1 : m = n := of_decide_eq_true h.1.1
    have h2 : d = e := D.same_eq h.1.2
    rw [h1, h2, sameE_eq h.2]
/-- r is ok with v and out -/
def RF.is (r : RF) (v : PV) (out : Env) : Bool := match r with
  | .ok w o => decide (w.1 = v.1) && D.same w.2 v.2 && sameE o out
  | _ => false
theorem RF.is_eq {r : RF} {v : PV} {out : Env} (h : r.is v out = true) : r = .ok v out := by
  unfold RF.is at h
  cases r with
  | ok w o =>
    simp only [Bool.and_eq_true] at h
    obtain ⟨⟨h1, h2⟩, h3⟩ := h
    obtain ⟨m, d⟩ := w
    obtain ⟨n, e⟩ := v
    have h1 : m = n := of_decide_eq_true h1
    have h2 : d = e := D.same_eq h2
    rw [h1, h2, sameE_eq h3]
  | _ => cases h
end Vs
set_option maxHeartbeats 4000000
namespace Vs
open PySem (Str PyData)
/-! ### displays with stars; three names -/
def starD (x : VV) : Option (List D) := match x.d with
  | .lst l => if x.open then some l else none
  | .tup l => if x.open then some l else none
  | _ => none
def argN : MA := fun _ => .pu []
def argC (a : M) (as : MA) : MA := fun ρ => (a ρ).bind ρ fun x ρ1 => (as ρ1).nxt x.stable fun xs => .pu (x :: xs)
def argS (a : M) (as : MA) : MA := fun ρ => (a ρ).bind ρ fun x ρ1 => match starD x with
  | some ds => (as ρ1).nxt true fun xs => .pu (ds.map (fun d => (⟨false, 0, d⟩ : VV)) ++ xs)
  | none => .no
def par3k (i j l : Nat) : List VV → Env → Fl
  | [x, y, z], ρ => (gname i x ρ).seq fun ρ2 => (gname j y ρ2).seq fun ρ3 => gname l z ρ3
  | _, _ => .no
def par3 (i j l : Nat) (as : MA) : MS := fun ρ => (as ρ).go ρ fun xs ρ1 => par3k i j l xs ρ1
/-! ### shifts, str -/
def kShl (x y : VV) : Option VV := match x.d, y.d with
  | .int i, .int j => if 0 ≤ j ∧ j ≤ 1000 ∧ i.natAbs < 2 ^ 64 then some (vi (i * 2 ^ j.toNat)) else none
  | _, _ => none
def kShr (x y : VV) : Option VV := match x.d, y.d with
  | .int i, .int j => if 0 ≤ j then some (vi (i / 2 ^ j.toNat)) else none
  | _, _ => none
def kStr : List VV → Option VV
  | [x] => (match x.d with | .int i => if i.natAbs.log2 < 1920 then some (vs (toString i)) else none | _ => none)
  | _ => none
/-! ### loops over a list of plain items that stays in its slot -/
def forV (i : Nat) (w : Nat → D → D) (g : MG) (body : MS) : Nat → Nat → Env → Fl
  | 0, k, ρ => (match look ρ i with | some (_, .lst ds) => if ds.length ≤ k then .nx ρ else .no | _ => .no)
  | n + 1, k, ρ => (match look ρ i with
    | some (_, .lst ds) => (match ds[k]? with
      | none => .nx ρ
      | some d => if d.imm = true then (match (g ⟨false, 0, w k d⟩ ρ).seq body with
        | .nx ρ1 => forV i w g body n (k + 1) ρ1
        | .ct ρ1 => forV i w g body n (k + 1) ρ1
        | .brk ρ1 => .nx ρ1
        | .ret x ρ1 => .ret x ρ1
        | .ex e ρ1 => .ex e ρ1
        | .no => .no) else .no)
    | _ => .no)
def wOne : Nat → D → D := fun _ d => d
def wEnum : Nat → D → D := fun k d => .tup [.int k, d]
def forsV (i : Nat) (w : Nat → D → D) (g : MG) (body : MS) (other : MS) : MS := fun ρ => match look ρ i with
  | some (_, .lst ds) => if ds.all D.imm = true then forV i w g body ds.length 0 ρ else other ρ
  | _ => other ρ
theorem le_forV {i : Nat} {w : Nat → D → D} {g g' : MG} {b b' : MS} (h : leG g g') (l : leS b b') : ∀ (n k : Nat) (ρ : Env), leF (forV i w g b n k ρ) (forV i w g' b' n k ρ)
  | 0, _, _ => .inr rfl
  | n + 1, k, ρ => by
    unfold forV
    split
    · split
      · exact .inr rfl
      · split
        · rename_i d _ _
          rcases le_seq (h ⟨false, 0, w k d⟩ ρ) l with e | e
          · rw [e]; exact .inl rfl
          · rw [e]
            cases (g' ⟨false, 0, w k d⟩ ρ).seq b' with
            | nx ρ2 => exact le_forV h l n (k + 1) ρ2
            | ct ρ2 => exact le_forV h l n (k + 1) ρ2
            | no => exact .inl rfl
            | _ => exact .inr rfl
        · exact .inl rfl
    · exact .inl rfl
theorem le_forsV {i : Nat} {w : Nat → D → D} {g g' : MG} {b b' o o' : MS} (h : leG g g') (l : leS b b') (m : leS o o') : leS (forsV i w g b o) (forsV i w g' b' o') := fun ρ => by
  unfold forsV
  split
  · split
    · exact le_forV h l _ _ _
    · exact m ρ
  · exact m ρ
/-- such a loop that goes through -/
theorem forV_inv {i : Nat} {w : Nat → D → D} {g : MG} {b : MS} {ds : List D} {P : Nat → Env → Prop} (hi : ds.all D.imm = true) (hl : ∀ k ρ, P k ρ → ∃ m, look ρ i = some (m, .lst ds))
    (hs : ∀ k d ρ, ds[k]? = some d → P k ρ → ∃ ρ', (g ⟨false, 0, w k d⟩ ρ).seq b = .nx ρ' ∧ P (k + 1) ρ') : ∀ (n k : Nat) (ρ : Env), n + k = ds.length → P k ρ → ∃ ρ', forV i w g b n k ρ = .nx ρ' ∧ P ds.length ρ'
  | 0, k, ρ, e, h => by
    obtain ⟨m, hm⟩ := hl k ρ h
    refine ⟨ρ, ?_, by rw [← e, Nat.zero_add]; exact h⟩
    unfold forV
    rw [hm]
    exact if_pos (by omega)
  | n + 1, k, ρ, e, h => by
    obtain ⟨m, hm⟩ := hl k ρ h
    have hk : k < ds.length := by omega
    have hd : ds[k]? = some ds[k] := List.getElem?_eq_getElem hk
    obtain ⟨ρ1, h1, h2⟩ := hs k _ ρ hd h
    obtain ⟨ρ', h3, h4⟩ := forV_inv hi hl hs n (k + 1) ρ1 (by omega) h2
    refine ⟨ρ', ?_, h4⟩
    unfold forV
    rw [hm]
    simp only [hd, List.all_eq_true.mp hi _ (List.getElem_mem hk), if_true, h1, h3]
theorem forsV_inv {i : Nat} {w : Nat → D → D} {g : MG} {b o : MS} {ds : List D} {ρ : Env} {m0 : Nat} (P : Nat → Env → Prop) (h0 : look ρ i = some (m0, .lst ds)) (hi : ds.all D.imm = true) (hl : ∀ k ρ, P k ρ → ∃ m, look ρ i = some (m, .lst ds))
    (hs : ∀ k d ρ, ds[k]? = some d → P k ρ → ∃ ρ', (g ⟨false, 0, w k d⟩ ρ).seq b = .nx ρ' ∧ P (k + 1) ρ') (h : P 0 ρ) : ∃ ρ', forsV i w g b o ρ = .nx ρ' ∧ P ds.length ρ' := by
  unfold forsV
  rw [h0]
  simp only [hi, if_true]
  exact forV_inv hi hl hs _ 0 ρ (by omega) h
/-! ### dicts with numbers and texts as keys -/
def isKey : D → Bool
  | .int _ => true | .str _ => true | _ => false
def dLook (l : List (D × D)) (k : D) : Option D := (l.find? fun p => p.1.same k).map (·.2)
def dPut (l : List (D × D)) (k d : D) : List (D × D) := if (l.any fun p => p.1.same k) = true then l.map (fun p => if p.1.same k = true then (p.1, d) else p) else l ++ [(k, d)]
/-- {} -/
def dnew : M := fun _ => .pu ⟨false, 1, .dic false []⟩
def kIxD (x y : VV) : Option VV := match x.d with
  | .dic false l => if (x.b = true ∨ x.m = 0) ∧ isKey y.d = true then (dLook l y.d).map (sub x) else none
  | _ => none
def kInD (x y : VV) : Option VV := match y.d with
  | .dic false l => if isKey x.d = true then some (vb (dLook l x.d).isSome) else none
  | _ => none
def kNotInD (x y : VV) : Option VV := match y.d with
  | .dic false l => if isKey x.d = true then some (vb (!(dLook l x.d).isSome)) else none
  | _ => none
/-- x[k] = .. of a dict in a slot -/
def gsetD (i : Nat) (b : M) : MG := fun x ρ => match look ρ i with
  | none => .no
  | some _ => (b ρ).go ρ fun y ρ1 => match look ρ1 i with
    | some (m + 1, .dic false l) => if x.stable = true ∧ isKey y.d = true ∧ l.length < lim ∧ (x.d.imm = true ∨ (l.any fun p => p.1.same y.d) = false) then .nx (put ρ1 i (some ((if x.d.imm = true then m else min m x.m) + 1, .dic false (dPut l y.d x.d)))) else .no
    | _ => .no
theorem le_gsetD {i : Nat} {b b' : M} (h : leM b b') : leG (gsetD i b) (gsetD i b') := fun x ρ => by
  unfold gsetD
  cases look ρ i with
  | none => exact .inl rfl
  | some _ => exact le_go (h ρ) fun _ _ => .inr rfl
/-! dicts with tuples as keys -/
def isKeyT (y : VV) : Bool := match y.d with | .tup l => l.all isKey | _ => false
def dnewT : M := fun _ => .pu ⟨false, 1, .dic true []⟩
def kIxT (x y : VV) : Option VV := match x.d with
  | .dic true l => if (x.b = true ∨ x.m = 0) ∧ isKeyT y = true then (dLook l y.d).map (sub x) else none
  | _ => none
def kInT (x y : VV) : Option VV := match y.d with
  | .dic true l => if isKeyT x = true then some (vb (dLook l x.d).isSome) else none
  | _ => none
def kNotInT (x y : VV) : Option VV := match y.d with
  | .dic true l => if isKeyT x = true then some (vb (!(dLook l x.d).isSome)) else none
  | _ => none
def gsetT (i : Nat) (b : M) : MG := fun x ρ => match look ρ i with
  | none => .no
  | some _ => (b ρ).go ρ fun y ρ1 => match look ρ1 i with
    | some (m + 1, .dic true l) => if x.stable = true ∧ isKeyT y = true ∧ l.length < lim ∧ (x.d.imm = true ∨ (l.any fun p => p.1.same y.d) = false) then .nx (put ρ1 i (some ((if x.d.imm = true then m else min m x.m) + 1, .dic true (dPut l y.d x.d)))) else .no
    | _ => .no
theorem le_gsetT {i : Nat} {b b' : M} (h : leM b b') : leG (gsetT i b) (gsetT i b') := fun x ρ => by
  unfold gsetT
  cases look ρ i with
  | none => exact .inl rfl
  | some _ => exact le_go (h ρ) fun _ _ => .inr rfl
def kDivmod : List VV → Option VV
  | [x, y] => (match x.d, y.d with
    | .int i, .int j => if 0 < j ∧ j < 1073741824 then some ⟨false, 1, .tup [.int (i / j), .int (i % j)]⟩ else none
    | _, _ => none)
  | _ => none
/-- a slice whose end may change something -/
def slcE (a : M) (lo hi : Option M) : M := fun ρ => (a ρ).bind ρ fun x ρ1 => (part lo ρ1).nxt false fun l => (part hi ρ1).nxt x.stable fun u => .ofO (kSl x l u)
def leO : Option M → Option M → Prop
  | none, none => True
  | some a, some b => leM a b
  | _, _ => False
theorem leO.no : leO none none := trivial
theorem leO.so {a b : M} (h : leM a b) : leO (some a) (some b) := h
theorem le_part {o o' : Option M} (h : leO o o') (ρ : Env) : leR (part o ρ) (part o' ρ) := by
  cases o with
  | none => cases o' with
    | none => exact .inr rfl
    | some b => exact h.elim
  | some a => cases o' with
    | none => exact h.elim
    | some b =>
      show leR ((a ρ).bind ρ fun y _ => R.ofO (intOf y)) ((b ρ).bind ρ fun y _ => R.ofO (intOf y))
      exact le_bind (h ρ) fun _ _ => .inr rfl
theorem le_slc {a a' : M} {lo lo' hi hi' : Option M} (h : leM a a') (hl : leO lo lo') (hh : leO hi hi') : leM (slc a lo hi) (slc a' lo' hi') := fun ρ => le_bind (h ρ) fun x ρ1 => le_nxt (le_part hl ρ1) fun l => le_nxt (le_part hh ρ1) fun _ => .inr rfl
theorem le_slcE {a a' : M} {lo lo' hi hi' : Option M} (h : leM a a') (hl : leO lo lo') (hh : leO hi hi') : leM (slcE a lo hi) (slcE a' lo' hi') := fun ρ => le_bind (h ρ) fun x ρ1 => le_nxt (le_part hl ρ1) fun l => le_nxt (le_part hh ρ1) fun _ => .inr rfl
/-- {a: b} -/
def ddisp (a b : M) : M := fun ρ => match a ρ, b ρ with
  | .ok x none, .ok y none => if isKey x.d = true ∧ y.stable = true then .pu ⟨false, (if y.d.imm = true then 0 else y.m) + 1, .dic false [(x.d, y.d)]⟩ else .no
  | _, _ => .no
theorem le_ddisp {a a' b b' : M} (h : leM a a') (l : leM b b') : leM (ddisp a b) (ddisp a' b') := fun ρ => by
  unfold ddisp
  rcases h ρ with q | q
  · rw [q]; exact .inl rfl
  · rw [q]
    rcases l ρ with z | z
    · rw [z]
      left
      split
      · rename_i h; cases h
      · rfl
    · rw [z]; exact .inr rfl
/-- an item of a slot, asked behind the index -/
def ixv2 (i : Nat) (b : M) : M := fun ρ => match look ρ i with
  | none => .no
  | some _ => (b ρ).bind ρ fun y ρ1 => match look ρ1 i with
    | some (m, d) => .ofO (kIx ⟨true, m, d⟩ y)
    | none => .no
theorem le_ixv2 {i : Nat} {b b' : M} (h : leM b b') : leM (ixv2 i b) (ixv2 i b') := fun ρ => by
  unfold ixv2
  cases look ρ i with
  | none => exact .inl rfl
  | some _ => exact le_bind (h ρ) fun _ _ => .inr rfl
end Vs
set_option maxHeartbeats 4000000
/-! Vs: *xs in a display; three names at once. -/
namespace Vs
open PySem PySem.Spec PyProof.Rows L2
section
variable {K : PySem.W.Frag} {S S' : Addr → Prop} {H : Hp}
theorem star_open {F f : List Addr} {x : VV} {v : V} {ds : List D} (h : VOk K S H x v f) (ok : Ok S H (f ++ F)) (q : starD x = some ds) :
    ∃ a xs S', v = .ref a ∧ (SqT K H a xs ∨ SqL K H a xs) ∧ (∀ b, S b → S' b) ∧ (∀ b, S' b → S b ∨ b ∈ f) ∧ RpAll K S' H 0 xs ds [] ∧ Ok S' H F := by
  obtain ⟨b, m, d⟩ := x
  unfold starD at q
  cases d with
  | lst l =>
    simp only at q
    split at q
    · rename_i c
      obtain rfl := Option.some.inj q
      obtain ⟨a, xs, S', r1, r2, r3⟩ := opn h ok c
      exact ⟨a, xs, S', r1, .inr r2, r3⟩
    · cases q
  | tup l =>
    simp only at q
    split at q
    · rename_i c
      obtain rfl := Option.some.inj q
      obtain ⟨a, xs, S', r1, r2, r3⟩ := opnT h ok c
      exact ⟨a, xs, S', r1, .inl r2, r3⟩
    · cases q
  | _ => cases q
theorem VsOk.stars : ∀ {xs : List V} {ds : List D} {us : List VV} {vs : List V} {g : List Addr}, RpAll K S H 0 xs ds [] → VsOk K S H us vs g → VsOk K S H (ds.map (fun d => (⟨false, 0, d⟩ : VV)) ++ us) (xs ++ vs) g
  | xs, [], us, vs, g, h, k => by
    cases h
    exact k
  | xs, d :: ds, us, vs, g, h, k => by
    have hl := h.own0
    generalize hf : ([] : List Addr) = f0 at h
    cases h with
    | cons h1 h2 =>
      obtain rfl := h1.own0
      obtain rfl := h2.own0
      exact VsOk.cons (f := []) (by rw [VOk.own]; exact h1) (VsOk.stars h2 k)
end
section
variable {ct : Str → Addr} {lent : List Bool} {X : Cx} {a : Expr} {es : List Expr} {ga : M} {gs : MA} {p : Pos}
theorem sa_consC (ha : SE ct X a ga) (hb : SA ct X es gs) (hs : starEach (a :: es) X.env = (false, eval a X.env) :: starEach es X.env := by rfl) : SA ct X (a :: es) (argC ga gs) := by
  refine ⟨fun W tk => ?_⟩
  obtain ⟨ta, pa, ra⟩ := ha.run W tk
  obtain ⟨tb, pb, rb⟩ := hb.run W tk
  refine ⟨_, pa_cons pa pb hs, fun S F H σ ρ Q E ok G => ra S F H σ ρ _ E ok ?_⟩
  unfold argC at G
  refine good_bind G fun x o1 v S1 F1 H1 f _ t1 h1 E1 k1 G => ?_
  refine rb S1 F1 H1 σ _ _ E1 k1.tail ?_
  cases qb : gs (now o1 ρ) with
  | no => rw [qb] at G; exact G
  | ex x ρ1 =>
    rw [qb] at G
    intro C d S2 F2 H2 st E2 k2 hx
    exact G C d S2 F2 H2 ((t1.step.less fun b hb => List.mem_append_right _ hb).trans st) E2 k2 hx
  | ok y o2 =>
    rw [qb, R.nxt_ok] at G
    intro u S2 F2 H2 g t2 h2 E2 k2
    split at G
    · rename_i hs
      have k3 : Ok S2 H2 ((f ++ g) ++ F2) := Fit.both k1 t2 k2
      have h1' : VOk X.K S2 H2 x v f := by
        cases o2 with
        | none =>
          obtain ⟨e, w1, _, rfl, _⟩ := t2
          exact (h1.same e).more w1
        | some _ => exact h1.step (t2.step.less fun b hb => hb) k1.tail k1.apart (by simpa using hs)
      rw [aft_aft] at G
      refine G (v :: u) S2 F2 H2 (f ++ g) ?_ (.cons h1' h2) ?_ k3
      · exact t1.thn k1 t2 (fun b hb => by rw [List.mem_append] at hb; exact hb.imp id .inl) (Same.refl _)
      · rw [thn_none, now_thn]
        exact E2
    · exact G.elim
theorem sa_star (ha : SE ct X a ga) (hb : SA ct X es gs) (hs : starEach (.Starred a p :: es) X.env = (true, eval a X.env) :: starEach es X.env := by rfl) : SA ct X (.Starred a p :: es) (argS ga gs) := by
  refine ⟨fun W tk => ?_⟩
  obtain ⟨ta, pa, ra⟩ := ha.run W tk
  obtain ⟨tb, pb, rb⟩ := hb.run W tk
  refine ⟨_, StX.pa_star pa pb hs, fun S F H σ ρ Q E ok G => ra S F H σ ρ _ E ok ?_⟩
  unfold argS at G
  refine good_bind G fun x o1 v S1 F1 H1 f _ t1 h1 E1 k1 G => ?_
  cases q : starD x with
  | none => rw [q] at G; exact G.elim
  | some ds =>
    rw [q] at G
    obtain ⟨b, xs, S2, rfl, hsq, u1, u2, r, k2⟩ := star_open h1 k1 q
    have t1' : Fit o1 S F H S2 F1 [] H1 := t1.froze k1 u1 u2
    refine ⟨b, xs, rfl, hsq, rb S2 F1 H1 σ _ _ (E1.more u1) k2 ?_⟩
    simp only at G
    cases qb : gs (now o1 ρ) with
    | no => rw [qb] at G; exact G
    | ex x ρ1 =>
      rw [qb] at G
      intro C d S3 F3 H3 st E2 k3 hx
      exact G C d S3 F3 H3 (t1'.step.trans st) E2 k3 hx
    | ok y o2 =>
      rw [qb, R.nxt_ok, if_pos (by simp), aft_aft] at G
      intro u S3 F3 H3 g t2 h2 E2 k3
      refine G (xs ++ u) S3 F3 H3 g ?_ (VsOk.stars (r.later (t2.step.later k2)) h2) ?_ k3
      · exact t1'.thn (f := []) k2 t2 (fun b hb => .inr (.inl hb)) (Same.refl _)
      · rw [thn_none, now_thn]
        exact E2
theorem ss_par3 {gs : MA} {i j l : Nat} {x y z : Str} {a b c : Expr} {px py pz pt pos : Pos} {kt k2 pt2} (hc : X.calm = true) (hN : X.N.Nodup) (hi : X.N[i]? = some x) (hj : X.N[j]? = some y) (hl : X.N[l]? = some z) (hij : i ≠ j) (hil : i ≠ l) (hjl : j ≠ l) (hli : lent[i]? ≠ some true) (hlj : lent[j]? ≠ some true) (hll : lent[l]? ≠ some true)
    (hx : X.env.scope.names.lookup x = some .local) (hy : X.env.scope.names.lookup y = some .local) (hz : X.env.scope.names.lookup z = some .local) (ha : SA ct X [a, b, c] gs)
    (hw : swappedStores [.Tuple [.Name x px, .Name y py, .Name z pz] kt pt] (.Tuple [a, b, c] k2 pt2) X.env = pure (some [x, y, z]))
    (hs : swapsWithSole [.Tuple [.Name x px, .Name y py, .Name z pz] kt pt] (.Tuple [a, b, c] k2 pt2) pos.line X.env = pure false := by rfl) : SS ct lent X (.Assign [.Tuple [.Name x px, .Name y py, .Name z pz] kt pt] (.Tuple [a, b, c] k2 pt2) pos) (par3 i j l gs) := by
  refine ⟨fun W tk po => ?_⟩
  obtain ⟨ta, pa, ra⟩ := ha.run W tk
  refine ⟨_, ps_par3 hc hN hi hj hl hij hil hjl hx hy hz pa hw hs, fun S F H σ ρ D E ok G => ra S F H σ ρ _ E ok ?_⟩
  refine good_go G fun xs o vs S1 F1 H1 f st h E1 ok1 G => ?_
  unfold par3k at G
  split at G
  · rename_i x y z
    cases h with
    | cons h1 h =>
      obtain ⟨v, w, f1, f2, rfl, rfl, h2, h3⟩ := h.two
      rename_i v0 f0
      refine ⟨v0, v, w, rfl, ?_⟩
      rcases gname_nx (i := i) (x := x) (ρ := now o ρ) with ⟨ρ2, q⟩ | q
      · rw [q, seq_nx] at G
        have okA : Ok S1 H1 ((f1 ++ f2) ++ (f0 ++ F1)) := ok1.perm (List.perm_iff_count.mpr fun b => (by simp only [List.count_append]; omega))
        obtain ⟨F2, E2, ok2, s2, kp2⟩ := store_at hli h1 E1 okA.tail q
        have okB : Ok S1 H1 ((f1 ++ f2) ++ F2) := okA.head.two ok2 fun b hb z => okA.apart b hb (s2 b z)
        have okB' : Ok S1 H1 (f2 ++ (f1 ++ F2)) := okB.perm (List.perm_iff_count.mpr fun b => (by simp only [List.count_append]; omega))
        rcases gname_nx (i := j) (x := y) (ρ := ρ2) with ⟨ρ3, q3⟩ | q3
        · rw [q3, seq_nx] at G
          obtain ⟨F3, E3, ok3, s3, kp3⟩ := store_at hlj h2 E2 okB'.tail q3
          have okC : Ok S1 H1 (f2 ++ F3) := okB'.head.two ok3 fun b hb z => okB'.apart b hb (s3 b z)
          rcases gname_nx (i := l) (x := z) (ρ := ρ3) with ⟨ρ4, q4⟩ | q4
          · rw [q4] at G
            obtain ⟨F4, E4, ok4, s4, kp4⟩ := store_at hll h3 E3 okC q4
            refine G _ S1 F4 H1 (st.less fun b hb => ?_) E4 ok4 ((kp2.trans kp3).trans kp4)
            simp only [List.mem_append] at s2 s3 s4 ⊢
            rcases s4 b hb with z | z
            · exact .inl (.inr (.inr z))
            · rcases s3 b z with z | z
              · exact .inl (.inr (.inl z))
              · rcases s2 b z with z | z
                · exact .inl (.inl z)
                · exact .inr z
          · rw [q4] at G
            exact G.elim
        · rw [q3] at G
          exact G.elim
      · rw [q] at G
        exact G.elim
  · exact G.elim
end
section
variable {ct : Str → Addr} {X : Cx}
theorem sa_nilN : SA ct X [] argN := sa_nil
end
section
variable {ct : Str → Addr} {X : Cx} {a b : Expr} {ga gb : M} {pos : Pos}
theorem kShl_op : Op2 X.K (rI CPow fun i j => .int (i * 2 ^ j.toNat)) kShl := op2_int fun x y z e => by
  unfold kShl at e
  split at e
  · rename_i i j h1 h2
    split at e
    · rename_i c
      obtain rfl := Option.some.inj e
      exact ⟨i, j, h1, h2, ⟨c.1, by omega, c.2.2⟩, rfl, fun _ _ => .int _ _⟩
    · cases e
  · cases e
theorem kShr_op : Op2 X.K (rI (fun _ j => 0 ≤ j) fun i j => .int (i / 2 ^ j.toNat)) kShr := op2_int fun x y z e => by
  unfold kShr at e
  split at e
  · rename_i i j h1 h2
    split at e
    · rename_i c
      obtain rfl := Option.some.inj e
      exact ⟨i, j, h1, h2, c, rfl, fun _ _ => .int _ _⟩
    · cases e
  · cases e
theorem s_shl (ha : SE ct X a ga) (hb : SE ct X b gb) : SE ct X (.BinOp a .LShift b pos) (two ga gb kShl) := s_op op_shl kShl_op ha hb
theorem s_shr (ha : SE ct X a ga) (hb : SE ct X b gb) : SE ct X (.BinOp a .RShift b pos) (two ga gb kShr) := s_op op_shr kShr_op ha hb
end
section
variable {K : PySem.W.Frag}
theorem kStr_op : OpN K (fun xs H Q => ∃ i, xs = [.int i] ∧ i.natAbs.log2 < 1920 ∧ Q (.str (toString i)) H) kStr := by
  refine opn_one (fun xs z e => ?_) fun S H x v f z Q h ok e hQ => ?_
  · unfold kStr at e
    split at e
    · exact ⟨_, rfl⟩
    · cases e
  · unfold kStr at e
    simp only at e
    split at e
    · rename_i i el
      split at e
      · rename_i c
        obtain rfl := Option.some.inj e
        exact ⟨i, by rw [h.int el], c, ret_imm ok rfl (.str _ _) hQ⟩
      · cases e
    · cases e
end
end Vs
set_option maxHeartbeats 4000000
/-! Vs: loops over a list of plain items that stays in its slot. -/
namespace Vs
open PySem PySem.Spec PyProof.Rows L2
/-- lent, and this slot too -/
def lentW (lent : List Bool) (i : Nat) : List Bool := (List.range (max lent.length (i + 1))).map fun j => j == i || lent.getD j false
theorem lentW_of {lent : List Bool} {i j : Nat} (h : lent[j]? = some true ∨ j = i) : (lentW lent i)[j]? = some true := by
  unfold lentW
  have hj : j < max lent.length (i + 1) := by
    rcases h with h | h
    · have := (List.getElem?_eq_some_iff.mp h).1; omega
    · omega
  rw [List.getElem?_map, List.getElem?_range hj]
  show some (j == i || lent.getD j false) = some true
  rcases h with h | h
  · rw [List.getD_eq_getElem?_getD, h]; simp
  · simp [h]
theorem Kp.ofW {lent : List Bool} {i : Nat} {σ σ' : List (Option V)} (h : Kp (lentW lent i) σ σ') : Kp lent σ σ' ∧ σ'[i]? = σ[i]? :=
  ⟨⟨h.1, fun j hj => h.2 j (lentW_of (.inl hj))⟩, h.2 i (lentW_of (.inr rfl))⟩
section
variable {K : PySem.W.Frag} {ct : Str → Addr} {lent : List Bool} {W : WX} {D : Ends} {S : Addr → Prop} {F : List Addr} {H : Hp} {σ : L2.St} {fl : Fl}
theorem GoodS.toW {i : Nat} (g : GoodS K ct lent W D S F H σ fl) : GoodS K ct (lentW lent i) W D S F H σ fl := by
  cases fl with
  | nx ρ' => exact fun σ' S' F' H' t E o k => g σ' S' F' H' t E o k.ofW.1
  | brk ρ' => exact fun σ' S' F' H' t E o k => g σ' S' F' H' t E o k.ofW.1
  | ct ρ' => exact fun σ' S' F' H' t E o k => g σ' S' F' H' t E o k.ofW.1
  | ret pv ρ' => exact fun v f σ' S' F' H' t r E o k => g v f σ' S' F' H' t r E o k.ofW.1
  | ex e ρ' => exact fun C d σ' S' F' H' t E o k x => g C d σ' S' F' H' t E o k.ofW.1 x
  | no => exact g
end
/-- how the items of a list are handed out -/
structure LiveIt (K : PySem.W.Frag) (J : Addr → It) (w : Nat → Vs.D → Vs.D) : Prop where
  go : ∀ {a k H xs u}, SqL K H a xs → xs[k]? = some u → (J a).go k H
  yld : ∀ {a k H xs u x H3 d} {S : Addr → Prop}, SqL K H a xs → xs[k]? = some u → (J a).yld k H x H3 → Rp K S H 0 u d [] → Same H H3 ∧ Rp K S H3 0 x (w k d) []
  stop : ∀ {a k H xs}, SqL K H a xs → xs.length ≤ k → (J a).stop k H
theorem live_one {K : PySem.W.Frag} : LiveIt K (Itl K) wOne where
  go := fun h g => ⟨_, _, h, g⟩
  yld := fun h g y r => by
    obtain ⟨rfl, hx⟩ := y
    have := (hx _ h).symm.trans g
    cases this
    exact ⟨Same.refl _, r⟩
  stop := fun h g => ⟨_, h, g⟩
theorem live_enum {K : PySem.W.Frag} : LiveIt K (Ite K) wEnum where
  go := fun h g => ⟨_, _, h, g⟩
  yld := fun h g y r => by
    obtain ⟨T, z, rfl, nT, rfl, hx⟩ := y
    have := (hx _ h).symm.trans g
    cases this
    refine ⟨same_upd nT, .tup0 upd_same ?_⟩
    exact .cons (f := []) (g := []) (.int _ _) (.cons (f := []) (g := []) (r.same (same_upd nT)) (.nil _))
  stop := fun h g => ⟨_, h, g⟩
section
variable {ct : Str → Addr} {lent : List Bool} {X : Cx} {body : List Stmt} {gb other : MS} {pos : Pos}
theorem SS.ofW {i : Nat} {st : Stmt} {g : MS} (h : SS ct (lentW lent i) X st g) : SS ct lent X st g := by
  refine ⟨fun W tk po => ?_⟩
  obtain ⟨t, pt, rt⟩ := h.run W tk po
  exact ⟨t, pt, fun S F H σ ρ D E ok G => rt S F H σ ρ D E ok G.toW⟩
theorem ss_either {st : Stmt} {g h k : MS} (hg : SS ct lent X st g) (hh : SS ct lent X st h) (hk : ∀ ρ, k ρ = g ρ ∨ k ρ = h ρ) : SS ct lent X st k := by
  refine ⟨fun W tk po => ?_⟩
  obtain ⟨t1, p1, r1⟩ := hg.run W tk po
  obtain ⟨t2, p2, r2⟩ := hh.run W tk po
  refine ⟨fun D σ H => t1 D σ H ∨ t2 D σ H, ⟨fun pins s σ H D I h => h.elim (p1.run pins s σ H D I) (p2.run pins s σ H D I)⟩, fun S F H σ ρ D E ok G => ?_⟩
  rcases hk ρ with e | e
  · exact .inl (r1 S F H σ ρ D E ok (e ▸ G))
  · exact .inr (r2 S F H σ ρ D E ok (e ▸ G))
/-- the loop itself -/
def forVs (i : Nat) (w : Nat → Vs.D → Vs.D) (g : MG) (body : MS) : MS := fun ρ => match look ρ i with
  | some (_, .lst ds) => forV i w g body ds.length 0 ρ
  | _ => .no
theorem ss_forVs (i : Nat) {tg iter : Expr} {gg : MG} {J : Addr → It} {w : Nat → Vs.D → Vs.D} (hJ : LiveIt X.K J w) (hc : X.calm = true)
    (hi : PI X tg iter fun σ H R => ∃ v, σ[i]? = some (some v) ∧ ∃ a xs, v = .ref a ∧ SqL X.K H a xs ∧ R (J a) H)
    (hg : SG ct (lentW lent i) X tg gg) (hb : SSs ct (lentW lent i) X body gb) (hs : ∀ x, foldedSetIterable iter X.env x = pure x := by intro _; rfl) :
    SS ct (lentW lent i) X (.For tg iter body [] pos) (forVs i w gg gb) := by
  refine ⟨fun W tk po => ?_⟩
  obtain ⟨tg', pg, rg⟩ := hg.run W tk
  obtain ⟨tb, pb, rb⟩ := hb.run W tk po
  refine ⟨_, ps_for po hc hi pg pb hs, fun S F H σ ρ D E ok G => ?_⟩
  unfold forVs at G
  cases q : look ρ i with
  | none => rw [q] at G; exact G.elim
  | some pv =>
    obtain ⟨m0, d0⟩ := pv
    rw [q] at G
    cases d0 with
    | lst ds0 =>
      obtain ⟨v0, f0, G0, hσ, r0, _, _⟩ := E.take q
      obtain ⟨a, xs0, g0, rfl, hq0, _, _, _⟩ := r0.lst
      refine ⟨_, hσ, a, xs0, rfl, hq0, fun k m σ' H' => ∃ ρ' S' F', Step S F H S' F' H' ∧ EnvRp X.K S' H' σ' ρ' F' ∧ Ok S' H' F' ∧ Kp (lentW lent i) σ σ' ∧ GoodS X.K ct (lentW lent i) W D S' F' H' σ' (forV i w gg gb m k ρ'),
        ⟨ds0.length, ρ, S, F, Step.refl, E, ok, Kp.refl, G⟩, fun k m σ' H' hW => ?_⟩
      obtain ⟨ρ', S', F', st', E', ok', kp', G'⟩ := hW
      have hσ' : σ'[i]? = some (some (.ref a)) := kp'.ofW.2.trans hσ
      have stop : ∀ {x : Prop} {ds : List Vs.D} {md : Nat}, look ρ' i = some (md, .lst ds) → ds.length ≤ k → (J a).stop k H' := by
        intro _ ds md q1 hk
        obtain ⟨v1, f1, G1, hσ1, r1, _, _⟩ := E'.take q1
        obtain rfl : v1 = .ref a := by rw [hσ'] at hσ1; exact (Option.some.inj (Option.some.inj hσ1)).symm
        obtain ⟨a1, xs1, g1, e1, hq1, ra1, _, _⟩ := r1.lst
        cases e1
        exact hJ.stop hq1 (by rw [ra1.length]; exact hk)
      cases m with
      | zero =>
        unfold forV at G'
        cases q1 : look ρ' i with
        | none => rw [q1] at G'; exact G'.elim
        | some pv =>
          obtain ⟨m1, d1⟩ := pv
          rw [q1] at G'
          cases d1 with
          | lst ds =>
            simp only at G'
            split at G'
            · rename_i hk
              exact .inl ⟨stop (x := True) q1 hk, G' σ' S' F' H' Step.refl E' ok' Kp.refl⟩
            · exact G'.elim
          | _ => exact G'.elim
      | succ m =>
        unfold forV at G'
        cases q1 : look ρ' i with
        | none => rw [q1] at G'; exact G'.elim
        | some pv =>
          obtain ⟨m1, d1⟩ := pv
          rw [q1] at G'
          cases d1 with
          | lst ds =>
            simp only at G'
            cases q2 : ds[k]? with
            | none =>
              rw [q2] at G'
              exact .inl ⟨stop (x := True) q1 (List.getElem?_eq_none_iff.mp q2), G' σ' S' F' H' Step.refl E' ok' Kp.refl⟩
            | some d =>
              rw [q2] at G'
              simp only at G'
              by_cases him : d.imm = true
              · rw [if_pos him] at G'
                obtain ⟨v1, f1, G1, hσ1, r1, _, _⟩ := E'.take q1
                obtain rfl : v1 = .ref a := by rw [hσ'] at hσ1; exact (Option.some.inj (Option.some.inj hσ1)).symm
                obtain ⟨a1, xs1, g1, e1, hq1, ra1, _, _⟩ := r1.lst
                cases e1
                obtain ⟨u, fu, hu, ru⟩ : ∃ u fu, xs1[k]? = some u ∧ Rp X.K S' H' (m1 - 1) u d fu := by
                  obtain ⟨u, f1, g1, h1, hu, _, ru, _⟩ := ra1.at q2
                  exact ⟨u, _, hu, ru⟩
                have ru0 : Rp X.K S' H' 0 u d [] := (ru.imm him).2 _ _ _
                refine .inr ⟨hJ.go hq1 hu, fun σ2 H2 => ∃ ρ2 S2 F2, Step S F H S2 F2 H2 ∧ EnvRp X.K S2 H2 σ2 ρ2 F2 ∧ Ok S2 H2 F2 ∧ Kp (lentW lent i) σ σ2 ∧ GoodS X.K ct (lentW lent i) W D S2 F2 H2 σ2 (forV i w gg gb m (k + 1) ρ2), fun σ2 H2 hN => ?_, fun x H3 hy => ?_⟩
                · obtain ⟨ρ2, S2, F2, hN⟩ := hN
                  exact ⟨m, by omega, ρ2, S2, F2, hN⟩
                · obtain ⟨sm, rx⟩ := hJ.yld hq1 hu hy ru0
                  have st3 : Step S' F' H' S' F' H3 := Step.of_same sm fun _ => .inl
                  have G3 := GoodS.from st3 Kp.refl G'
                  let N : L2.St → Hp → Prop := fun σ2 H2 => ∃ ρ2 S2 F2, Step S F H S2 F2 H2 ∧ EnvRp X.K S2 H2 σ2 ρ2 F2 ∧ Ok S2 H2 F2 ∧ Kp (lentW lent i) σ σ2 ∧ GoodS X.K ct (lentW lent i) W D S2 F2 H2 σ2 (forV i w gg gb m (k + 1) ρ2)
                  have turn : GoodS X.K ct (lentW lent i) W { D with nx := N, ct := N, bk := D.nx } S' F' H3 σ' ((gg ⟨false, 0, w k d⟩ ρ').seq gb) := by
                    cases q : (gg ⟨false, 0, w k d⟩ ρ').seq gb with
                    | nx ρ1 =>
                      rw [q] at G3
                      exact fun σ2 S2 F2 H2 t E2 o2 k2 => ⟨ρ1, S2, F2, (st'.trans st3).trans t, E2, o2, kp'.trans k2, GoodS.from t k2 G3⟩
                    | ct ρ1 =>
                      rw [q] at G3
                      exact fun σ2 S2 F2 H2 t E2 o2 k2 => ⟨ρ1, S2, F2, (st'.trans st3).trans t, E2, o2, kp'.trans k2, GoodS.from t k2 G3⟩
                    | brk ρ1 => rw [q] at G3; exact G3
                    | ret pv ρ1 => rw [q] at G3; exact G3
                    | ex e ρ1 => rw [q] at G3; exact G3
                    | no => rw [q] at G3; exact G3
                  refine rg S' F' H3 σ' ρ' ⟨false, 0, w k d⟩ x [] { D with nx := fun σ2 H2 => tb { D with nx := N, ct := N, bk := D.nx } σ2 H2, ct := N, bk := D.nx } _ (by rw [VOk.own]; exact rx) (E'.same sm) (ok'.same sm) (fun _ _ z => z) ?_
                  cases q : gg ⟨false, 0, w k d⟩ ρ' with
                  | nx ρ1 =>
                    rw [q] at turn
                    exact fun σ2 S2 F2 H2 t E2 o2 k2 => rb S2 F2 H2 σ2 ρ1 _ E2 o2 (GoodS.from t k2 turn)
                  | _ => rw [q] at turn; exact turn
              · rw [if_neg him] at G'
                exact G'.elim
          | _ => exact G'.elim
    | _ => exact G.elim
theorem ss_forV (i : Nat) {tg iter : Expr} {gg : MG} {gi : MI} {J : Addr → It} {w : Nat → Vs.D → Vs.D} (hJ : LiveIt X.K J w) (hc : X.calm = true)
    (hi : PI X tg iter fun σ H R => ∃ v, σ[i]? = some (some v) ∧ ∃ a xs, v = .ref a ∧ SqL X.K H a xs ∧ R (J a) H) (hf : SI ct X tg iter gi)
    (hg : SG ct (lentW lent i) X tg gg) (hb : SSs ct (lentW lent i) X body gb) (hs : ∀ x, foldedSetIterable iter X.env x = pure x := by intro _; rfl) :
    SS ct lent X (.For tg iter body [] pos) (forsV i w gg gb (fors gi gg gb)) := by
  refine SS.ofW (i := i) (ss_either (ss_forVs i hJ hc hi hg hb hs) (ss_for hc hf hg hb hs) fun ρ => ?_)
  unfold forsV forVs
  split
  · rename_i h
    split
    · first | (rw [h]; exact .inl rfl) | exact .inl rfl
    · exact .inr rfl
  · exact .inr rfl
theorem pi_liveL (i : Nat) {x : Str} {px : Pos} {tg : Expr} (hN : X.N[i]? = some x := by rfl) (hv : Vis X.env.scope x := by first | exact Or.inl rfl | exact Or.inr (Or.inl rfl) | exact Or.inr (Or.inr rfl)) (hd : (x == ("__debug__" : Str)) = false := by decide)
    (hcd : (x == ("__classdict__" : Str)) = false := by decide) : PI X tg (.Name x px) fun σ H R => ∃ v, σ[i]? = some (some v) ∧ ∃ a xs, v = .ref a ∧ SqL X.K H a xs ∧ R (Itl X.K a) H :=
  ⟨fun pins s σ H R I h => (pi_list (pe_var (i := i) hN hv hd hcd)).run pins s σ H R I (by
    obtain ⟨v, h1, a, xs, rfl, h2, h3⟩ := h
    exact ⟨_, h1, a, rfl, ⟨xs, h2⟩, h3⟩)⟩
theorem pi_liveE (i : Nat) {x : Str} {p px pos tpos : Pos} {elts : List Expr} {kk : Nat} (hg : Gl X "enumerate") (hm : X.mg "enumerate" = none) (hN : X.N[i]? = some x := by rfl) (hv : Vis X.env.scope x := by first | exact Or.inl rfl | exact Or.inr (Or.inl rfl) | exact Or.inr (Or.inr rfl)) (hd : (x == ("__debug__" : Str)) = false := by decide)
    (hcd : (x == ("__classdict__" : Str)) = false := by decide) (hs : starEach [.Name x px] X.env = [(false, eval (.Name x px) X.env)] := by rfl) : PI X (.Tuple elts kk tpos) (.Call (.Name "enumerate" p) [.Name x px] [] pos) fun σ H R => ∃ v, σ[i]? = some (some v) ∧ ∃ a xs, v = .ref a ∧ SqL X.K H a xs ∧ R (Ite X.K a) H :=
  ⟨fun pins s σ H R I h => (pi_enum hg hm (pa_cons (pe_var (i := i) hN hv hd hcd) pa_nil) hs).run pins s σ H R I (by
    obtain ⟨v, h1, a, xs, rfl, h2, h3⟩ := h
    exact ⟨_, h1, a, xs, rfl, h2, h3⟩)⟩
end
section
variable {ct : Str → Addr} {X : Cx} {b : Expr} {gb : M} {pos px : Pos}
theorem s_ixv (i : Nat) {x : Str} (hb : SE ct X b gb) (hs : PlainIx b := by exact fun _ _ => rfl) (hN : X.N[i]? = some x := by rfl) (hv : Vis X.env.scope x := by first | exact Or.inl rfl | exact Or.inr (Or.inl rfl) | exact Or.inr (Or.inr rfl)) (hd : (x == ("__debug__" : Str)) = false := by decide)
    (hcd : (x == ("__classdict__" : Str)) = false := by decide) : SE ct X (.Subscript (.Name x px) b pos) (ixv2 i gb) := by
  refine ⟨fun W tk => ?_⟩
  obtain ⟨tb, pb, rb⟩ := hb.run W tk
  refine ⟨_, pe_ix ix_seq (pe_var (i := i) hN hv hd hcd) pb hs, fun S F H σ ρ Q E ok G => ?_⟩
  unfold ixv2 at G
  cases q : look ρ i with
  | none => rw [q] at G; exact G.elim
  | some pv =>
    obtain ⟨m0, d0⟩ := pv
    rw [q] at G
    obtain ⟨v0, f0, G0, hσ, _⟩ := E.take q
    refine ⟨v0, hσ, rb S F H σ ρ _ E ok ?_⟩
    refine good_bind G fun y o w S1 F1 H1 f _ t1 h1 E1 k1 G => ?_
    cases q1 : look (now o ρ) i with
    | none => rw [q1] at G; exact G.elim
    | some pv1 =>
      obtain ⟨m1, d1⟩ := pv1
      rw [q1] at G
      obtain ⟨v1, f1, G1, hσ1, r1, _⟩ := E1.take q1
      obtain rfl : v1 = v0 := by rw [hσ] at hσ1; exact (Option.some.inj (Option.some.inj hσ1)).symm
      have hx : VOk X.K S1 H1 ⟨true, m1, d1⟩ v1 [] := by rw [VOk.bor]; exact ⟨rfl, f1, r1⟩
      exact fin_rule (g := f) (t := fun Q => rIx X.K v1 w H1 Q) t1 E1 k1 (fun z hz Q hq => kIx_op S1 H1 _ v1 [] y w f z Q hx h1 k1.head hz hq) G
end
end Vs
set_option maxHeartbeats 4000000
/-! Vs: dicts with numbers and texts as keys. -/
namespace Vs
open PySem PySem.Spec PyProof.Rows L2
theorem same_kD {a b : Key} : D.same (kD a) (kD b) = decide (a = b) := by
  cases a <;> cases b <;> simp [kD, D.same]
theorem key_of {d : D} (h : isKey d = true) : ∃ k : Key, d = kD k := by
  cases d with
  | int i => exact ⟨.inl i, rfl⟩
  | str s => exact ⟨.inr s, rfl⟩
  | _ => cases h
/-- what a dict's keys and values are, as a list -/
abbrev dzip (kvs : List (Key × V)) (ds : List D) : List (D × D) := (kvs.map fun p => kD p.1).zip ds
theorem dlook_zip {k : Key} : ∀ {kvs : List (Key × V)} {ds : List D}, kvs.length = ds.length →
    (dLook (dzip kvs ds) (kD k) = none ∧ valV kvs k = none) ∨ ∃ (i : Nat) (w : V) (d : D), dLook (dzip kvs ds) (kD k) = some d ∧ valV kvs k = some w ∧ (kvs.map (·.2))[i]? = some w ∧ ds[i]? = some d
  | [], [], _ => .inl ⟨rfl, rfl⟩
  | [], _ :: _, h => by simp at h
  | _ :: _, [], h => by simp at h
  | (k', w) :: kvs, d :: ds, h => by
    have h' : kvs.length = ds.length := by simpa using h
    by_cases e : k' = k
    · refine .inr ⟨0, w, d, ?_, valV_pos e, rfl, rfl⟩
      unfold dLook dzip
      simp [List.find?_cons, same_kD, e]
    · have e1 : dLook (dzip ((k', w) :: kvs) (d :: ds)) (kD k) = dLook (dzip kvs ds) (kD k) := by
        unfold dLook dzip
        simp [List.find?_cons, same_kD, e]
      rcases dlook_zip (k := k) h' with ⟨a, b⟩ | ⟨i, w', d', a, b, c, c'⟩
      · exact .inl ⟨e1.trans a, (valV_neg e).trans b⟩
      · exact .inr ⟨i + 1, w', d', e1.trans a, (valV_neg e).trans b, by simpa using c, by simpa using c'⟩
theorem dput_zip {k : Key} {w : V} {d : D} : ∀ {kvs : List (Key × V)} {ds : List D}, kvs.length = ds.length →
    dPut (dzip kvs ds) (kD k) d = (if (kvs.any fun kv => decide (kv.1 = k)) = true then dzip (putK kvs k w) ((kvs.zip ds).map fun q => if q.1.1 = k then d else q.2) else dzip (putK kvs k w) (ds ++ [d])) := by
  intro kvs ds h
  have e0 : (dzip kvs ds).any (fun p => p.1.same (kD k)) = kvs.any fun kv => decide (kv.1 = k) := by
    induction kvs generalizing ds with
    | nil => cases ds <;> rfl
    | cons p kvs ih =>
      cases ds with
      | nil => simp at h
      | cons d' ds =>
        have := ih (ds := ds) (by simpa using h)
        unfold dzip at this ⊢
        rw [List.map_cons, List.zip_cons_cons, List.any_cons, this, List.any_cons, same_kD]
  unfold dPut putK
  rw [e0]
  by_cases c : (kvs.any fun kv => decide (kv.1 = k)) = true
  · rw [if_pos c, if_pos c, if_pos c]
    clear c e0
    induction kvs generalizing ds with
    | nil => cases ds <;> rfl
    | cons p kvs ih =>
      cases ds with
      | nil => simp at h
      | cons d' ds =>
        have := ih (ds := ds) (by simpa using h)
        unfold dzip at this ⊢
        rw [List.map_cons, List.zip_cons_cons, List.map_cons, this, List.map_cons, List.map_cons, List.zip_cons_cons, List.map_cons, List.zip_cons_cons, same_kD]
        by_cases e : p.1 = k
        · simp [e]
        · simp [e]
  · rw [if_neg c, if_neg c, if_neg c]
    unfold dzip
    rw [List.map_append, List.zip_append (by simpa using h)]
    rfl
section
variable {K : PySem.W.Frag} {S S' : Addr → Prop} {H : Hp}
theorem Rp.dicK {m : Nat} {v : V} {l : List (D × D)} {g : List Addr} (h : Rp K S H m v (.dic false l) g) :
    ∃ (a : Addr) (kvs : List (Key × V)) (ds : List D) (g' : List Addr), v = .ref a ∧ l = dzip kvs ds ∧ Rd H a (.dK kvs) ∧ RpAll K S H (m - 1) (kvs.map (·.2)) ds g' ∧ (m = 0 → g = [] ∧ g' = []) ∧ (m ≠ 0 → H a = some (.dK kvs) ∧ g = a :: g') := by
  generalize hd : D.dic false l = d at h
  cases h with
  | dk0 q s r =>
    obtain ⟨_, rfl⟩ := D.dic.inj hd
    exact ⟨_, _, _, _, rfl, rfl, q, r, fun _ => ⟨rfl, rfl⟩, fun z => absurd rfl z⟩
  | dk1 q r =>
    obtain ⟨_, rfl⟩ := D.dic.inj hd
    exact ⟨_, _, _, _, rfl, rfl, .inl q, r, fun z => (nomatch z), fun _ => ⟨q, rfl⟩⟩
  | dt0 q s r => cases (D.dic.inj hd).1
  | dt1 q r => cases (D.dic.inj hd).1
  | _ => cases hd
theorem VOk.key {y : VV} {u : V} {g : List Addr} {k : Key} (h : VOk K S H y u g) (e : y.d = kD k) : u = kV k ∧ g = [] := by
  cases k with
  | inl i => exact ⟨h.int e, (by
      obtain ⟨b, m, d⟩ := y
      obtain rfl : d = .int i := e
      exact h.nil_int)⟩
  | inr z => exact ⟨h.str e, (by
      obtain ⟨b, m, d⟩ := y
      obtain rfl : d = .str z := e
      unfold VOk at h
      split at h
      · exact h.1
      · exact (h.imm rfl).1)⟩
def rGetD : R2 := fun x y H Q => ∃ a v, x = V.ref a ∧ DGet H a y (some v) ∧ Q v H
theorem kIxD_op : Op2 K rGetD kIxD := fun S H x v f y u g z Q h1 h2 ok e hQ => by
  unfold kIxD at e
  split at e
  · rename_i l el
    split at e
    · rename_i c
      obtain ⟨k, hk⟩ := key_of c.2
      rw [hk] at e
      obtain ⟨rfl, rfl⟩ := h2.key hk
      obtain ⟨gx, hr⟩ := h1.rp
      rw [el] at hr
      obtain ⟨a, kvs, ds, g', rfl, rfl, hq, ra, z1, z2⟩ := hr.dicK
      have hl : kvs.length = ds.length := by have := ra.length; rwa [List.length_map] at this
      rcases dlook_zip (k := k) hl with ⟨e1, _⟩ | ⟨i, w, d, e1, e2, e3, e4⟩
      · rw [e1] at e; cases e
      · rw [e1] at e
        obtain rfl := Option.some.inj e
        refine ⟨a, w, rfl, .inl ⟨kvs, k, hq, rfl, e2.symm⟩, ?_⟩
        obtain ⟨w', g1, gw, g2, f1, f2, f3, _⟩ := ra.at e4
        rw [e3] at f1
        cases f1
        refine hQ w H S [] ⟨Same.refl _, fun _ z => z, fun _ => .inl, by simp⟩ ?_ ok.nil
        obtain ⟨xb, xm, xd⟩ := x
        by_cases hm : xm - 1 = 0
        · rw [show sub ⟨xb, xm, xd⟩ d = ⟨false, 0, d⟩ by unfold sub; simp [hm]]
          rw [VOk.own]
          replace f3 : Rp K S H (xm - 1) w d gw := f3
          rw [hm] at f3
          have := f3.own0
          subst this
          exact f3
        · have hb : xb = true := c.1.resolve_right (by show ¬ xm = 0; omega)
          subst hb
          rw [show sub ⟨true, xm, xd⟩ d = ⟨true, xm - 1, d⟩ by unfold sub; simp [hm]]
          rw [VOk.bor]
          exact ⟨rfl, gw, f3⟩
    · cases e
  · cases e
def rInDc : R2 := fun x y H Q => ∃ a o, y = V.ref a ∧ DGet H a x o ∧ Q (.bl o.isSome) H
def rNotInDc : R2 := fun x y H Q => ∃ a o, y = V.ref a ∧ DGet H a x o ∧ Q (.bl (!o.isSome)) H
theorem dic_has {y : VV} {u : V} {g : List Addr} {l : List (D × D)} {k : Key} (h : VOk K S H y u g) (e : y.d = .dic false l) : ∃ a o, u = V.ref a ∧ DGet H a (kV k) o ∧ o.isSome = (dLook l (kD k)).isSome := by
  obtain ⟨gx, hr⟩ := h.rp
  rw [e] at hr
  obtain ⟨a, kvs, ds, g', rfl, rfl, hq, ra, z1, z2⟩ := hr.dicK
  have hl : kvs.length = ds.length := by have := ra.length; rwa [List.length_map] at this
  refine ⟨a, valV kvs k, rfl, .inl ⟨kvs, k, hq, rfl, rfl⟩, ?_⟩
  rcases dlook_zip (k := k) hl with ⟨e1, e2⟩ | ⟨i, w, d, e1, e2, _⟩
  · rw [e1, e2]; rfl
  · rw [e1, e2]; rfl
theorem kInD_op : Op2 K rInDc kInD := fun S H x v f y u g z Q h1 h2 ok e hQ => by
  unfold kInD at e
  split at e
  · rename_i l el
    split at e
    · rename_i c
      obtain rfl := Option.some.inj e
      obtain ⟨k, hk⟩ := key_of c
      obtain ⟨rfl, rfl⟩ := h1.key hk
      obtain ⟨a, o, rfl, d, q⟩ := dic_has (k := k) h2 el
      rw [hk, ← q] at hQ
      exact ⟨a, o, rfl, d, ret_imm ok rfl (.bl _ _) hQ⟩
    · cases e
  · cases e
theorem kNotInD_op : Op2 K rNotInDc kNotInD := fun S H x v f y u g z Q h1 h2 ok e hQ => by
  unfold kNotInD at e
  split at e
  · rename_i l el
    split at e
    · rename_i c
      obtain rfl := Option.some.inj e
      obtain ⟨k, hk⟩ := key_of c
      obtain ⟨rfl, rfl⟩ := h1.key hk
      obtain ⟨a, o, rfl, d, q⟩ := dic_has (k := k) h2 el
      rw [hk, ← q] at hQ
      exact ⟨a, o, rfl, d, ret_imm ok rfl (.bl _ _) hQ⟩
    · cases e
  · cases e
/-- an item is put into a dict of a slot -/
theorem write_okD {a : Addr} {f1 ff h G : List Addr} {kvs : List (Key × V)} {ds : List D} {n : Nat} {zs : List (Key × V)} (ha : H a = some (.dK zs)) (ok : Ok S H G) (p : G.Perm ((h ++ (a :: ff)) ++ f1)) (r : RpAll K (fun b => S b ∨ b ∈ f1) H n (kvs.map (·.2)) ds ff) :
    Step S G H (fun b => S b ∨ b ∈ f1) (h ++ (a :: ff)) (upd H a (.dK kvs)) ∧ Rp K (fun b => S b ∨ b ∈ f1) (upd H a (.dK kvs)) (n + 1) (.ref a) (.dic false (dzip kvs ds)) (a :: ff) ∧ Ok (fun b => S b ∨ b ∈ f1) (upd H a (.dK kvs)) (h ++ (a :: ff)) := by
  have k := split_ok ok p
  have ka : Ok (fun b => S b ∨ b ∈ f1) H (a :: ff) := k.tail
  have nS : ¬ (S a ∨ a ∈ f1) := ka.ns a (List.mem_cons_self ..)
  have nf : a ∉ ff := (List.nodup_cons.mp ka.nd).1
  have hg : a ∈ G := p.mem_iff.mpr (List.mem_append_left _ (List.mem_append_right _ (List.mem_cons_self ..)))
  refine ⟨⟨fun b o e hb => by rw [upd_ne fun z => hb (by rw [z]; exact hg)]; exact e, fun _ => .inl, fun b hb => .inl (p.mem_iff.mpr (List.mem_append_left _ hb)), fun b hb => hb.imp id fun z => .inl (p.mem_iff.mpr (List.mem_append_right _ z))⟩, ?_, k.wr trivial (by rw [ha]; simp)⟩
  exact .dk1 upd_same (r.wr (by rw [ha]; trivial) nS nf)
end
section
variable {ct : Str → Addr} {X : Cx} {a b : Expr} {ga gb : M} {pos : Pos}
theorem s_dnew : SE ct X (.Dict [] [] pos) dnew := ⟨fun W tk => ⟨_, pe_dnewK, fun S F H σ ρ Q E ok G => fun p hp =>
  G (.ref p) S F _ [p] ⟨same_upd hp, fun _ z => z, fun _ => .inl, rfl, by simp [hp]⟩ (by rw [VOk.own]; exact .dk1 (ds := []) upd_same (.nil _)) (E.same (same_upd hp)) (new_okp ok hp trivial)⟩⟩
theorem s_dget {k : Nat} (hr : Room k X.A) (ha : SE ct X a ga) (hb : SE ct X b gb) (hs : NoSl b) : SE ct X (.Subscript a b pos) (two ga gb kIxD) := run_two ha hb (fun pa pb => pe_dget (by have := units_of hr; omega) pa pb hs) kIxD_op
theorem op_dIn (hu : X.A.units + 1 < cLine) : OpR X (compareOp .In) rInDc := fun pins s σ H x y v u Q I rx ry h => by
  obtain ⟨a, o, rfl, g, q⟩ := h
  obtain rfl : u = Value.ref a := ry
  exact d_in hu I g rx fun s3 I3 => ⟨.bl o.isSome, H, I3, rfl, q⟩
theorem op_dNotIn (hu : X.A.units + 1 < cLine) : OpR X (compareOp .NotIn) rNotInDc := fun pins s σ H x y v u Q I rx ry h => by
  obtain ⟨a, o, rfl, g, q⟩ := h
  obtain rfl : u = Value.ref a := ry
  exact d_notIn hu I g rx fun s3 I3 => ⟨.bl (!o.isSome), H, I3, rfl, q⟩
theorem s_din {k : Nat} (hr : Room k X.A) (ha : SE ct X a ga) (hb : SE ct X b gb) (hm : behindInMarks .In b = false := by with_unfolding_all rfl) : SE ct X (.Compare a [.In] [b] pos) (two ga gb kInD) := s_cmp (op_dIn (by have := units_of hr; omega)) kInD_op hm ha hb
theorem s_dnotin {k : Nat} (hr : Room k X.A) (ha : SE ct X a ga) (hb : SE ct X b gb) (hm : behindInMarks .NotIn b = false := by with_unfolding_all rfl) : SE ct X (.Compare a [.NotIn] [b] pos) (two ga gb kNotInD) := s_cmp (op_dNotIn (by have := units_of hr; omega)) kNotInD_op hm ha hb
theorem t_din {k : Nat} (hr : Room k X.A) (ha : SE ct X a ga) (hb : SE ct X b gb) (hm : behindInMarks .In b = false := by with_unfolding_all rfl) : ST ct X (.Compare a [.In] [b] pos) (tst (two ga gb kInD) blOf) := t_cmp (op_dIn (by have := units_of hr; omega)) kInD_op hm ha hb
theorem t_dnotin {k : Nat} (hr : Room k X.A) (ha : SE ct X a ga) (hb : SE ct X b gb) (hm : behindInMarks .NotIn b = false := by with_unfolding_all rfl) : ST ct X (.Compare a [.NotIn] [b] pos) (tst (two ga gb kNotInD) blOf) := t_cmp (op_dNotIn (by have := units_of hr; omega)) kNotInD_op hm ha hb
end
section
variable {K : PySem.W.Frag} {S S' : Addr → Prop} {H : Hp}
theorem any_zip {k : Key} : ∀ {kvs : List (Key × V)} {ds : List D}, kvs.length = ds.length → (dzip kvs ds).any (fun p => p.1.same (kD k)) = kvs.any fun kv => decide (kv.1 = k)
  | [], [], _ => rfl
  | [], _ :: _, h => by simp at h
  | _ :: _, [], h => by simp at h
  | p :: kvs, d' :: ds, h => by
    have := any_zip (k := k) (kvs := kvs) (ds := ds) (by simpa using h)
    unfold dzip at this ⊢
    rw [List.map_cons, List.zip_cons_cons, List.any_cons, this, List.any_cons, same_kD]
theorem put_imm {k : Key} {v : V} {d : D} {m : Nat} (hd : ∀ S H, Rp K S H m v d []) : ∀ {kvs : List (Key × V)} {ds : List D} {f : List Addr}, RpAll K S H m (kvs.map (·.2)) ds f →
    ∃ f1 f2, f.Perm (f1 ++ f2) ∧ RpAll K S H m ((kvs.map fun kv => if kv.1 = k then (kv.1, v) else kv).map (·.2)) ((kvs.zip ds).map fun q => if q.1.1 = k then d else q.2) f1
  | [], ds, f, h => by
    cases h
    exact ⟨[], [], .refl _, .nil _⟩
  | p :: kvs, ds, f, h => by
    cases h with
    | cons h1 h2 =>
      rename_i d' fa ds' g
      obtain ⟨f1, f2, pp, r⟩ := put_imm hd h2
      by_cases e : p.1 = k
      · refine ⟨f1, fa ++ f2, ?_, ?_⟩
        · exact (List.Perm.append_left _ pp).trans perm_mid
        · rw [List.map_cons, List.map_cons, List.zip_cons_cons, List.map_cons]
          simp only [e, if_true]
          exact RpAll.cons (f := []) (hd S H) r
      · refine ⟨fa ++ f1, f2, ?_, ?_⟩
        · rw [List.append_assoc]
          exact List.Perm.append_left _ pp
        · rw [List.map_cons, List.map_cons, List.zip_cons_cons, List.map_cons]
          simp only [e, if_false]
          exact RpAll.cons h1 r
theorem put_ok {a : Addr} {f f0 : List Addr} {kvs : List (Key × V)} {ds : List D} {m n : Nat} {v : V} {d : D} {k : Key} (ha : H a = some (.dK kvs)) (ok : Ok S H (f ++ (a :: f0))) (r : RpAll K S H m (kvs.map (·.2)) ds f0) (h : Rp K S H n v d f)
    (hk : d.imm = true ∨ ((dzip kvs ds).any fun p => p.1.same (kD k)) = false) :
    ∃ S' ff, Step S (f ++ (a :: f0)) H S' (a :: ff) (upd H a (.dK (putK kvs k v))) ∧ Rp K S' (upd H a (.dK (putK kvs k v))) ((if d.imm = true then m else min m n) + 1) (.ref a) (.dic false (dPut (dzip kvs ds) (kD k) d)) (a :: ff) ∧ Ok S' (upd H a (.dK (putK kvs k v))) (a :: ff) := by
  have hl : kvs.length = ds.length := by have := r.length; rwa [List.length_map] at this
  rw [dput_zip (w := v) hl]
  rw [any_zip hl] at hk
  by_cases c : (kvs.any fun kv => decide (kv.1 = k)) = true
  · have hi : d.imm = true := hk.resolve_right (by rw [c]; simp)
    rw [if_pos c, if_pos hi]
    obtain ⟨rfl, hd⟩ := h.imm hi
    obtain ⟨f1, f2, pp, r2⟩ := put_imm (k := k) (v := v) (d := d) (fun S H => hd S H m) r
    have e : putK kvs k v = kvs.map fun kv => if kv.1 = k then (kv.1, v) else kv := by unfold putK; rw [if_pos c]
    rw [← e] at r2
    obtain ⟨w1, w2, w3⟩ := write_okD (h := []) (f1 := f2) ha ok (by
      show (a :: f0).Perm (a :: f1 ++ f2)
      exact List.Perm.cons a pp) (r2.more fun b => Or.inl)
    exact ⟨_, _, w1, w2, w3⟩
  · rw [if_neg c]
    obtain ⟨ff, gg, fx, p, r1, r2⟩ := r.meet h
    have e : putK kvs k v = kvs ++ [(k, v)] := by unfold putK; rw [if_neg c]
    have r3 : RpAll K (fun b => S b ∨ b ∈ fx) H (if d.imm = true then m else min m n) ((putK kvs k v).map (·.2)) (ds ++ [d]) (ff ++ (gg ++ [])) := by
      rw [e, List.map_append]
      exact RpAll.append r1 (.cons r2 (.nil _))
    rw [List.append_nil] at r3
    obtain ⟨w1, w2, w3⟩ := write_okD (h := []) ha ok (by
      show (f ++ (a :: f0)).Perm (a :: (ff ++ gg) ++ fx)
      exact List.perm_append_comm.trans (List.Perm.cons a p)) r3
    exact ⟨_, _, w1, w2, w3⟩
end
section
variable {ct : Str → Addr} {lent : List Bool} {X : Cx} {b : Expr} {gb : M} {pos p : Pos}
theorem sg_dset {k0 : Nat} (hr : Room k0 X.A) {i : Nat} {x : Str} (hb : SE ct X b gb) (hN : X.N[i]? = some x := by rfl) (hv : Vis X.env.scope x := by first | exact Or.inl rfl | exact Or.inr (Or.inl rfl) | exact Or.inr (Or.inr rfl)) (hd : (x == ("__debug__" : Str)) = false := by decide)
    (hcd : (x == ("__classdict__" : Str)) = false := by decide)
    (ha : ∀ v, assign (.Subscript (.Name x p) b pos) X.env v = (do
      let ov ← holding [v] (eval (.Name x p) X.env)
      let iv ← holding [v, ov] (eval b X.env)
      standAt pos
      holding [v, ov, iv] (setItem ov iv v)
      release [v, ov, iv] []) := by intro _; rfl) : SG ct lent X (.Subscript (.Name x p) b pos) (gsetD i gb) := by
  refine ⟨fun W tk => ?_⟩
  obtain ⟨tb, pb, rb⟩ := hb.run W tk
  refine ⟨_, pg_sub (pv i hN hv hd hcd) pb (set_dict (by have := units_of hr; omega)) ha, fun S F H σ ρ xx v f D Q h E ok q G => ?_⟩
  unfold gsetD at G
  cases q0 : look ρ i with
  | none => rw [q0] at G; exact G.elim
  | some pv0 =>
    obtain ⟨m0, d0⟩ := pv0
    obtain ⟨v0, f0', G0, h1, hz0⟩ := E.take q0
    refine ⟨v0, h1, rb S F H σ ρ _ E ok.tail ?_⟩
    rw [q0] at G
    cases qb : gb ρ with
    | no => rw [qb] at G; exact G
    | ex ee ρ1 =>
      rw [qb] at G
      exact fun C d S' F' H' st E' o' hx => G C d σ S' F' H' (st.wide (fun b hb => List.mem_append_right _ hb) fun b hb => .inl hb) E' o' Kp.refl hx
    | ok y o =>
      rw [qb] at G
      intro w S1 F1 H1 g t1 hy E1 k1
      replace G : GoodS X.K ct lent W D S (f ++ F) H σ (match look (now o ρ) i with
        | some (m + 1, .dic false l) => if xx.stable = true ∧ isKey y.d = true ∧ l.length < lim ∧ (xx.d.imm = true ∨ (l.any fun p => p.1.same y.d) = false) then .nx (Vs.put (now o ρ) i (some ((if xx.d.imm = true then m else min m xx.m) + 1, .dic false (dPut l y.d xx.d)))) else .no
        | _ => .no) := G
      split at G
      · rename_i _ m l ql
        split at G
        · rename_i c
          obtain ⟨hs, c2, c3, c4⟩ := c
          obtain ⟨k, hk⟩ := key_of c2
          obtain ⟨rfl, rfl⟩ := hy.key hk
          rw [hk] at G c4
          have hx := (h.step (t1.step.less fun b hb => hb) ok.tail ok.apart hs).stab hs
          obtain ⟨v1, f1, G1, h1', h2, pf, E2⟩ := E1.take ql
          rw [h1] at h1'
          cases h1'
          have k1 : Ok S1 H1 F1 := k1
          have st1 : Step S F H S1 F1 H1 := t1.step
          obtain ⟨aa, kvs, ds, ff0, rfl, rfl, hq, r, z1, z2⟩ := h2.dicK
          obtain ⟨ha, rfl⟩ := z2 (by omega)
          replace r : RpAll X.K S1 H1 m (kvs.map (·.2)) ds ff0 := r
          have k2 : Ok S1 H1 (f ++ ((aa :: ff0) ++ G1)) := (Ok.join st1 ok k1).perm (List.Perm.append_left _ pf)
          have k3 : Ok S1 H1 ((f ++ (aa :: ff0)) ++ G1) := by rw [List.append_assoc]; exact k2
          have hl : kvs.length = ds.length := by have := r.length; rwa [List.length_map] at this
          obtain ⟨S2, ff, w1, w2, w3⟩ := put_ok (k := k) ha k3.head r hx c4
          refine ⟨aa, _, rfl, DPut.k ha ?_, q _ _ ?_⟩
          · have : (dzip kvs ds).length = kvs.length := by unfold dzip; rw [List.length_zip, List.length_map, ← hl, Nat.min_self]
            rw [this, Vs.lim_eq] at c3
            exact c3
          have E3 : EnvRp X.K S2 _ σ (Vs.put (now o ρ) i none) G1 := E2.step w1 k3.head fun b hb z => k3.apart b z hb
          have k4 : Ok S2 _ (G1 ++ (aa :: ff)) := Ok.join w1 (k3.perm List.perm_append_comm) w3
          have st2 : Step S (f ++ F) H S1 (f ++ F1) H1 := st1.wide (fun b hb => List.mem_append_right _ hb) fun b hb => (List.mem_append.mp hb).elim (fun z => .inr (List.mem_append_left _ z)) .inl
          refine G σ S2 ((aa :: ff) ++ G1) _ (st2.trans (w1.wide (fun b hb => ?_) fun b hb => ?_)) (E3.back h1 w2) (k4.perm List.perm_append_comm) Kp.refl
          · rcases List.mem_append.mp hb with z | z
            · exact List.mem_append_left _ z
            · exact List.mem_append_right _ (pf.mem_iff.mpr (List.mem_append_left _ z))
          · rcases List.mem_append.mp hb with z | z
            · exact .inl z
            · exact .inr (List.mem_append_right _ (pf.mem_iff.mpr (List.mem_append_right _ z)))
        · exact G.elim
      · exact G.elim
end
section
variable {ct : Str → Addr} {X : Cx} {a b : Expr} {ga gb : M} {pos : Pos}
theorem s_ddisp (ha : SE ct X a ga) (hb : SE ct X b gb) : SE ct X (.Dict [some a] [b] pos) (ddisp ga gb) := by
  refine ⟨fun W tk => ?_⟩
  obtain ⟨ta, pa, ra⟩ := ha.run W tk
  obtain ⟨tb, pb, rb⟩ := hb.run W tk
  refine ⟨_, pe_disp (pps_cons pa pb pps_nil) rfl rfl (by simp) (by simp), fun S F H σ ρ Q E ok G => fun p hp => ?_⟩
  have sm : Same H (upd H p (.dK [])) := same_upd hp
  unfold ddisp at G
  cases qa : ga ρ with
  | no => rw [qa] at G; exact G.elim
  | ex x ρ1 => rw [qa] at G; exact G.elim
  | ok x o =>
    cases o with
    | some _ => rw [qa] at G; exact G.elim
    | none =>
      cases qb : gb ρ with
      | no => rw [qa, qb] at G; exact G.elim
      | ex y ρ1 => rw [qa, qb] at G; exact G.elim
      | ok y o =>
        cases o with
        | some _ => rw [qa, qb] at G; exact G.elim
        | none =>
          rw [qa, qb] at G
          simp only at G
          split at G
          · rename_i c
            obtain ⟨k, hk⟩ := key_of c.1
            refine ra S F _ σ ρ _ (E.same sm) (ok.same sm) ?_
            rw [qa]
            intro u S1 F1 H1 f1 t1 h1 E1 k1
            obtain ⟨sm1, u1, u2, hF1, n1⟩ := t1
            rw [hF1] at E1 k1
            obtain ⟨rfl, rfl⟩ := h1.key hk
            refine rb S1 F H1 σ ρ _ E1 k1.tail ?_
            rw [qb]
            intro w S2 F2 H2 f2 t2 h2 E2 k2
            obtain ⟨sm2, u3, u4, hF2, n2⟩ := t2
            rw [hF2] at E2 k2
            have hp2 : H2 p = some (.dK []) := sm2 _ _ (sm1 _ _ upd_same)
            have h2 := h2.stab c.2
            refine ⟨hp2, [(k, w)], rfl, by simp, ?_⟩
            have e : mergeK [] [(k, w)] = [(k, w)] := rfl
            rw [e]
            have np2 : p ∉ f2 := fun z => by
              have := n2 p z
              rw [sm1 _ _ upd_same] at this
              cases this
            have nF : p ∉ F := fun z => ok.mem z hp
            have nS : ¬ S2 p := fun z => by
              rcases u4 p z with z | z
              · rcases u2 p z with z | z
                · exact ok.tr p z hp
                · rw [upd_same] at z; cases z
              · rw [sm1 _ _ upd_same] at z; cases z
            have k3 : Ok S2 H2 (p :: (f2 ++ F)) := by
              refine ⟨List.nodup_cons.mpr ⟨fun z => ?_, k2.nd⟩, fun b hb => ?_, fun b hb => ?_, k2.tr⟩
              · rcases List.mem_append.mp z with z | z
                · exact np2 z
                · exact nF z
              · rcases List.mem_cons.mp hb with rfl | z
                · rw [hp2]; trivial
                · exact k2.mu b z
              · rcases List.mem_cons.mp hb with rfl | z
                · exact nS
                · exact k2.ns b z
            have k4 : Ok S2 H2 (p :: f2) := by
              have : Ok S2 H2 ((p :: f2) ++ F) := k3
              exact this.head
            have hy : ∃ n, RpAll X.K S2 H2 n ([(k, w)].map (·.2)) [y.d] f2 ∧ n = (if y.d.imm = true then 0 else y.m) := by
              by_cases hi : y.d.imm = true
              · obtain ⟨rfl, q⟩ := h2.imm hi
                exact ⟨0, .cons (f := []) (q _ _ _) (.nil _), by rw [if_pos hi]⟩
              · exact ⟨y.m, by simpa using RpAll.cons h2 (.nil _), by rw [if_neg hi]⟩
            obtain ⟨n, hy, hn⟩ := hy
            rw [← hn] at G
            obtain ⟨w1, w2, w3⟩ := write_okD (G := (p :: f2) ++ F) (h := F) (f1 := []) hp2 k3 (by
              rw [List.append_nil]
              exact List.perm_append_comm) (hy.more fun b => Or.inl)
            have same2 : ∀ b o, H b = some o → (upd H2 p (.dK [(k, w)])) b = some o := fun b o q => by
              rw [upd_ne (by intro z; subst z; rw [hp] at q; cases q)]
              exact sm2 _ _ (sm1 _ _ (sm b o q))
            have noneH : ∀ b, (upd H p (.dK [])) b = none → H b = none := fun b q => by
              cases z : H b with
              | none => rfl
              | some o => rw [sm b o z] at q; cases q
            have noneH1 : ∀ b, H1 b = none → H b = none := fun b q => by
              cases z : H b with
              | none => rfl
              | some o => rw [sm1 _ _ (sm b o z)] at q; cases q
            refine G (.ref p) (fun b => S2 b ∨ b ∈ ([] : List Addr)) F _ (p :: f2) ⟨same2, fun b hb => .inl (u3 b (u1 b hb)), fun b hb => ?_, rfl, fun b hb => ?_⟩ (by rw [VOk.own, hk]; exact w2) ?_ ?_
            · rcases hb with hb | hb
              · rcases u4 b hb with z | z
                · rcases u2 b z with z | z
                  · exact .inl z
                  · exact .inr (noneH b z)
                · exact .inr (noneH1 b z)
              · cases hb
            · rcases List.mem_cons.mp hb with rfl | z
              · exact hp
              · exact noneH1 b (n2 b z)
            · show EnvRp X.K _ _ σ ρ F
              exact E2.step (w1.less (F'' := []) (by simp) |> fun _ => (⟨fun b o e hb => by rw [upd_ne (by intro z; subst z; exact hb (List.mem_cons_self ..))]; exact e, fun b => Or.inl, fun b hb => .inl hb, fun b hb => hb.elim .inl fun z => by cases z⟩ : Step S2 [p] H2 (fun b => S2 b ∨ b ∈ ([] : List Addr)) [p] _)) ⟨by simp, fun b hb => by rw [List.mem_singleton.mp hb, hp2]; trivial, fun b hb => by rw [List.mem_singleton.mp hb]; exact nS, k2.tr⟩ fun b hb z => nF (by rw [← List.mem_singleton.mp z]; exact hb)
            · exact w3.perm List.perm_append_comm
          · exact G.elim
end
end Vs
set_option maxHeartbeats 4000000
/-! Vs: dicts with tuples of numbers and texts as keys. -/
namespace Vs
open PySem PySem.Spec PyProof.Rows L2
theorem sameAll_kD : ∀ {a b : List Key}, sameAll (a.map kD) (b.map kD) = decide (a = b)
  | [], [] => by simp [sameAll]
  | [], _ :: _ => by simp [sameAll]
  | _ :: _, [] => by simp [sameAll]
  | x :: a, y :: b => by
    rw [List.map_cons, List.map_cons, sameAll, same_kD, sameAll_kD]
    by_cases e : x = y <;> by_cases e' : a = b <;> simp [e, e']
theorem same_tD {a b : List Key} : D.same (tD a) (tD b) = decide (a = b) := by
  unfold tD
  rw [D.same]
  exact sameAll_kD
/-- what a dict's keys and values are, as a list -/
abbrev tzip (kvs : List (List Key × V)) (ds : List D) : List (D × D) := (kvs.map fun p => tD p.1).zip ds
theorem tlook_zip {k : List Key} : ∀ {kvs : List (List Key × V)} {ds : List D}, kvs.length = ds.length →
    (dLook (tzip kvs ds) (tD k) = none ∧ valV kvs k = none) ∨ ∃ (i : Nat) (w : V) (d : D), dLook (tzip kvs ds) (tD k) = some d ∧ valV kvs k = some w ∧ (kvs.map (·.2))[i]? = some w ∧ ds[i]? = some d
  | [], [], _ => .inl ⟨rfl, rfl⟩
  | [], _ :: _, h => by simp at h
  | _ :: _, [], h => by simp at h
  | (k', w) :: kvs, d :: ds, h => by
    have h' : kvs.length = ds.length := by simpa using h
    by_cases e : k' = k
    · refine .inr ⟨0, w, d, ?_, valV_pos e, rfl, rfl⟩
      unfold dLook tzip
      simp [List.find?_cons, same_tD, e]
    · have e1 : dLook (tzip ((k', w) :: kvs) (d :: ds)) (tD k) = dLook (tzip kvs ds) (tD k) := by
        unfold dLook tzip
        simp [List.find?_cons, same_tD, e]
      rcases tlook_zip (k := k) h' with ⟨a, b⟩ | ⟨i, w', d', a, b, c, c'⟩
      · exact .inl ⟨e1.trans a, (valV_neg e).trans b⟩
      · exact .inr ⟨i + 1, w', d', e1.trans a, (valV_neg e).trans b, by simpa using c, by simpa using c'⟩
theorem tput_zip {k : List Key} {w : V} {d : D} : ∀ {kvs : List (List Key × V)} {ds : List D}, kvs.length = ds.length →
    dPut (tzip kvs ds) (tD k) d = (if (kvs.any fun kv => decide (kv.1 = k)) = true then tzip (putK kvs k w) ((kvs.zip ds).map fun q => if q.1.1 = k then d else q.2) else tzip (putK kvs k w) (ds ++ [d])) := by
  intro kvs ds h
  have e0 : (tzip kvs ds).any (fun p => p.1.same (tD k)) = kvs.any fun kv => decide (kv.1 = k) := by
    induction kvs generalizing ds with
    | nil => cases ds <;> rfl
    | cons p kvs ih =>
      cases ds with
      | nil => simp at h
      | cons d' ds =>
        have := ih (ds := ds) (by simpa using h)
        unfold tzip at this ⊢
        rw [List.map_cons, List.zip_cons_cons, List.any_cons, this, List.any_cons, same_tD]
  unfold dPut putK
  rw [e0]
  by_cases c : (kvs.any fun kv => decide (kv.1 = k)) = true
  · rw [if_pos c, if_pos c, if_pos c]
    clear c e0
    induction kvs generalizing ds with
    | nil => cases ds <;> rfl
    | cons p kvs ih =>
      cases ds with
      | nil => simp at h
      | cons d' ds =>
        have := ih (ds := ds) (by simpa using h)
        unfold tzip at this ⊢
        rw [List.map_cons, List.zip_cons_cons, List.map_cons, this, List.map_cons, List.map_cons, List.zip_cons_cons, List.map_cons, List.zip_cons_cons, same_tD]
        by_cases e : p.1 = k
        · simp [e]
        · simp [e]
  · rw [if_neg c, if_neg c, if_neg c]
    unfold tzip
    rw [List.map_append, List.zip_append (by simpa using h)]
    rfl
section
variable {K : PySem.W.Frag} {S S' : Addr → Prop} {H : Hp}
theorem Rp.dicT {m : Nat} {v : V} {l : List (D × D)} {g : List Addr} (h : Rp K S H m v (.dic true l) g) :
    ∃ (a : Addr) (kvs : List (List Key × V)) (ds : List D) (g' : List Addr), v = .ref a ∧ l = tzip kvs ds ∧ H a = some (.dT kvs) ∧ RpAll K S H (m - 1) (kvs.map (·.2)) ds g' ∧ (m = 0 → g = [] ∧ g' = []) ∧ (m ≠ 0 → g = a :: g') := by
  generalize hd : D.dic true l = d at h
  cases h with
  | dk0 q s r => cases (D.dic.inj hd).1
  | dk1 q r => cases (D.dic.inj hd).1
  | dt0 q s r =>
    obtain ⟨_, rfl⟩ := D.dic.inj hd
    exact ⟨_, _, _, _, rfl, rfl, q, r, fun _ => ⟨rfl, rfl⟩, fun z => absurd rfl z⟩
  | dt1 q r =>
    obtain ⟨_, rfl⟩ := D.dic.inj hd
    exact ⟨_, _, _, _, rfl, rfl, q, r, fun z => (nomatch z), fun _ => rfl⟩
  | _ => cases hd
theorem RpAll.keys {m : Nat} : ∀ {xs : List V} {ds : List D} {f : List Addr}, RpAll K S H m xs ds f → ds.all isKey = true → ∃ k : List Key, xs = k.map kV ∧ ds = k.map kD ∧ f = []
  | _, _, _, .nil _, _ => ⟨[], rfl, rfl, rfl⟩
  | _, _, _, .cons (d := d) h t, e => by
    rw [List.all_cons, Bool.and_eq_true] at e
    obtain ⟨k, rfl, rfl, rfl⟩ := RpAll.keys t e.2
    obtain ⟨k0, rfl⟩ := key_of e.1
    cases k0 with
    | inl i => cases h; exact ⟨.inl i :: k, rfl, rfl, rfl⟩
    | inr z => cases h; exact ⟨.inr z :: k, rfl, rfl, rfl⟩
theorem VOk.keyT {y : VV} {u : V} {g : List Addr} (h : VOk K S H y u g) (e : isKeyT y = true) : ∃ (b : Addr) (k : List Key), y.d = tD k ∧ u = .ref b ∧ H b = some (.tup (k.map kV)) ∧ g = [] := by
  obtain ⟨gx, hr⟩ := h.rp
  obtain ⟨yb, m, d⟩ := y
  unfold isKeyT at e
  have hg : d.imm = false → True := fun _ => trivial
  cases d with
  | tup ds =>
    have fin : ∀ {a : Addr} {xs : List V} {m' : Nat} {f : List Addr}, u = .ref a → H a = some (.tup xs) → RpAll K S H m' xs ds f → f = gx → ∃ (b : Addr) (k : List Key), D.tup ds = tD k ∧ u = .ref b ∧ H b = some (.tup (k.map kV)) ∧ gx = [] := fun hu ha r hf => by
      obtain ⟨k, rfl, rfl, rfl⟩ := r.keys e
      exact ⟨_, k, rfl, hu, ha, hf.symm⟩
    have hk : ∃ (b : Addr) (k : List Key), D.tup ds = tD k ∧ u = .ref b ∧ H b = some (.tup (k.map kV)) ∧ gx = [] := by
      cases hr with
      | tup0 ha r => exact fin rfl ha r rfl
      | tup1 ha r => exact fin rfl ha r rfl
    obtain ⟨b, k, h1, h2, h3, h4⟩ := hk
    refine ⟨b, k, h1, h2, h3, ?_⟩
    cases yb with
    | false =>
      rw [VOk.own] at h
      subst h2
      cases h with
      | tup0 ha r => rfl
      | tup1 ha r =>
        obtain ⟨_, _, _, hf⟩ := r.keys e
        exact hf
    | true =>
      rw [VOk.bor] at h
      exact h.1
  | _ => cases e
theorem kIxT_op : Op2 K rGetD kIxT := fun S H x v f y u g z Q h1 h2 ok e hQ => by
  unfold kIxT at e
  split at e
  · rename_i l el
    split at e
    · rename_i c
      obtain ⟨bk, k, hk, rfl, hbk, rfl⟩ := h2.keyT c.2
      rw [hk] at e
      obtain ⟨gx, hr⟩ := h1.rp
      rw [el] at hr
      obtain ⟨a, kvs, ds, g', rfl, rfl, hq, ra, z1, z2⟩ := hr.dicT
      have hl : kvs.length = ds.length := by have := ra.length; rwa [List.length_map] at this
      rcases tlook_zip (k := k) hl with ⟨e1, _⟩ | ⟨i, w, d, e1, e2, e3, e4⟩
      · rw [e1] at e; cases e
      · rw [e1] at e
        obtain rfl := Option.some.inj e
        refine ⟨a, w, rfl, .inr ⟨kvs, k, bk, .inl hq, rfl, hbk, e2.symm⟩, ?_⟩
        obtain ⟨w', g1, gw, g2, f1, f2, f3, _⟩ := ra.at e4
        rw [e3] at f1
        cases f1
        refine hQ w H S [] ⟨Same.refl _, fun _ z => z, fun _ => .inl, by simp⟩ ?_ ok.nil
        obtain ⟨xb, xm, xd⟩ := x
        by_cases hm : xm - 1 = 0
        · rw [show sub ⟨xb, xm, xd⟩ d = ⟨false, 0, d⟩ by unfold sub; simp [hm]]
          rw [VOk.own]
          replace f3 : Rp K S H (xm - 1) w d gw := f3
          rw [hm] at f3
          have := f3.own0
          subst this
          exact f3
        · have hb : xb = true := c.1.resolve_right (by show ¬ xm = 0; omega)
          subst hb
          rw [show sub ⟨true, xm, xd⟩ d = ⟨true, xm - 1, d⟩ by unfold sub; simp [hm]]
          rw [VOk.bor]
          exact ⟨rfl, gw, f3⟩
    · cases e
  · cases e
theorem dic_hasT {y : VV} {u : V} {g : List Addr} {l : List (D × D)} {k : List Key} {b : Addr} (h : VOk K S H y u g) (e : y.d = .dic true l) (hb : H b = some (.tup (k.map kV))) : ∃ a o, u = V.ref a ∧ DGet H a (.ref b) o ∧ o.isSome = (dLook l (tD k)).isSome := by
  obtain ⟨gx, hr⟩ := h.rp
  rw [e] at hr
  obtain ⟨a, kvs, ds, g', rfl, rfl, hq, ra, z1, z2⟩ := hr.dicT
  have hl : kvs.length = ds.length := by have := ra.length; rwa [List.length_map] at this
  refine ⟨a, valV kvs k, rfl, .inr ⟨kvs, k, b, .inl hq, rfl, hb, rfl⟩, ?_⟩
  rcases tlook_zip (k := k) hl with ⟨e1, e2⟩ | ⟨i, w, d, e1, e2, _⟩
  · rw [e1, e2]; rfl
  · rw [e1, e2]; rfl
theorem kInT_op : Op2 K rInDc kInT := fun S H x v f y u g z Q h1 h2 ok e hQ => by
  unfold kInT at e
  split at e
  · rename_i l el
    split at e
    · rename_i c
      obtain rfl := Option.some.inj e
      obtain ⟨bk, k, hk, rfl, hbk, rfl⟩ := h1.keyT c
      obtain ⟨a, o, rfl, d, q⟩ := dic_hasT (k := k) h2 el hbk
      rw [hk, ← q] at hQ
      exact ⟨a, o, rfl, d, ret_imm ok rfl (.bl _ _) hQ⟩
    · cases e
  · cases e
theorem kNotInT_op : Op2 K rNotInDc kNotInT := fun S H x v f y u g z Q h1 h2 ok e hQ => by
  unfold kNotInT at e
  split at e
  · rename_i l el
    split at e
    · rename_i c
      obtain rfl := Option.some.inj e
      obtain ⟨bk, k, hk, rfl, hbk, rfl⟩ := h1.keyT c
      obtain ⟨a, o, rfl, d, q⟩ := dic_hasT (k := k) h2 el hbk
      rw [hk, ← q] at hQ
      exact ⟨a, o, rfl, d, ret_imm ok rfl (.bl _ _) hQ⟩
    · cases e
  · cases e
/-- an item is put into a dict of a slot -/
theorem write_okT {a : Addr} {f1 ff h G : List Addr} {kvs : List (List Key × V)} {ds : List D} {n : Nat} {zs : List (List Key × V)} (ha : H a = some (.dT zs)) (ok : Ok S H G) (p : G.Perm ((h ++ (a :: ff)) ++ f1)) (r : RpAll K (fun b => S b ∨ b ∈ f1) H n (kvs.map (·.2)) ds ff) :
    Step S G H (fun b => S b ∨ b ∈ f1) (h ++ (a :: ff)) (upd H a (.dT kvs)) ∧ Rp K (fun b => S b ∨ b ∈ f1) (upd H a (.dT kvs)) (n + 1) (.ref a) (.dic true (tzip kvs ds)) (a :: ff) ∧ Ok (fun b => S b ∨ b ∈ f1) (upd H a (.dT kvs)) (h ++ (a :: ff)) := by
  have k := split_ok ok p
  have ka : Ok (fun b => S b ∨ b ∈ f1) H (a :: ff) := k.tail
  have nS : ¬ (S a ∨ a ∈ f1) := ka.ns a (List.mem_cons_self ..)
  have nf : a ∉ ff := (List.nodup_cons.mp ka.nd).1
  have hg : a ∈ G := p.mem_iff.mpr (List.mem_append_left _ (List.mem_append_right _ (List.mem_cons_self ..)))
  refine ⟨⟨fun b o e hb => by rw [upd_ne fun z => hb (by rw [z]; exact hg)]; exact e, fun _ => .inl, fun b hb => .inl (p.mem_iff.mpr (List.mem_append_left _ hb)), fun b hb => hb.imp id fun z => .inl (p.mem_iff.mpr (List.mem_append_right _ z))⟩, ?_, k.wr trivial (by rw [ha]; simp)⟩
  exact .dt1 upd_same (r.wr (by rw [ha]; trivial) nS nf)
end
section
variable {ct : Str → Addr} {X : Cx} {a b : Expr} {ga gb : M} {pos : Pos}
theorem s_dnewT : SE ct X (.Dict [] [] pos) dnewT := ⟨fun W tk => ⟨_, pe_dnewT, fun S F H σ ρ Q E ok G => fun p hp =>
  G (.ref p) S F _ [p] ⟨same_upd hp, fun _ z => z, fun _ => .inl, rfl, by simp [hp]⟩ (by rw [VOk.own]; exact .dt1 (ds := []) upd_same (.nil _)) (E.same (same_upd hp)) (new_okp ok hp trivial)⟩⟩
theorem s_tget {k : Nat} (hr : Room k X.A) (ha : SE ct X a ga) (hb : SE ct X b gb) (hs : NoSl b) : SE ct X (.Subscript a b pos) (two ga gb kIxT) := run_two ha hb (fun pa pb => pe_dget (by have := units_of hr; omega) pa pb hs) kIxT_op
theorem s_tin {k : Nat} (hr : Room k X.A) (ha : SE ct X a ga) (hb : SE ct X b gb) (hm : behindInMarks .In b = false := by with_unfolding_all rfl) : SE ct X (.Compare a [.In] [b] pos) (two ga gb kInT) := s_cmp (op_dIn (by have := units_of hr; omega)) kInT_op hm ha hb
theorem s_tnotin {k : Nat} (hr : Room k X.A) (ha : SE ct X a ga) (hb : SE ct X b gb) (hm : behindInMarks .NotIn b = false := by with_unfolding_all rfl) : SE ct X (.Compare a [.NotIn] [b] pos) (two ga gb kNotInT) := s_cmp (op_dNotIn (by have := units_of hr; omega)) kNotInT_op hm ha hb
theorem t_tin {k : Nat} (hr : Room k X.A) (ha : SE ct X a ga) (hb : SE ct X b gb) (hm : behindInMarks .In b = false := by with_unfolding_all rfl) : ST ct X (.Compare a [.In] [b] pos) (tst (two ga gb kInT) blOf) := t_cmp (op_dIn (by have := units_of hr; omega)) kInT_op hm ha hb
theorem t_tnotin {k : Nat} (hr : Room k X.A) (ha : SE ct X a ga) (hb : SE ct X b gb) (hm : behindInMarks .NotIn b = false := by with_unfolding_all rfl) : ST ct X (.Compare a [.NotIn] [b] pos) (tst (two ga gb kNotInT) blOf) := t_cmp (op_dNotIn (by have := units_of hr; omega)) kNotInT_op hm ha hb
end
section
variable {K : PySem.W.Frag} {S S' : Addr → Prop} {H : Hp}
theorem tany_zip {k : List Key} : ∀ {kvs : List (List Key × V)} {ds : List D}, kvs.length = ds.length → (tzip kvs ds).any (fun p => p.1.same (tD k)) = kvs.any fun kv => decide (kv.1 = k)
  | [], [], _ => rfl
  | [], _ :: _, h => by simp at h
  | _ :: _, [], h => by simp at h
  | p :: kvs, d' :: ds, h => by
    have := tany_zip (k := k) (kvs := kvs) (ds := ds) (by simpa using h)
    unfold tzip at this ⊢
    rw [List.map_cons, List.zip_cons_cons, List.any_cons, this, List.any_cons, same_tD]
theorem tput_imm {k : List Key} {v : V} {d : D} {m : Nat} (hd : ∀ S H, Rp K S H m v d []) : ∀ {kvs : List (List Key × V)} {ds : List D} {f : List Addr}, RpAll K S H m (kvs.map (·.2)) ds f →
    ∃ f1 f2, f.Perm (f1 ++ f2) ∧ RpAll K S H m ((kvs.map fun kv => if kv.1 = k then (kv.1, v) else kv).map (·.2)) ((kvs.zip ds).map fun q => if q.1.1 = k then d else q.2) f1
  | [], ds, f, h => by
    cases h
    exact ⟨[], [], .refl _, .nil _⟩
  | p :: kvs, ds, f, h => by
    cases h with
    | cons h1 h2 =>
      rename_i d' fa ds' g
      obtain ⟨f1, f2, pp, r⟩ := tput_imm hd h2
      by_cases e : p.1 = k
      · refine ⟨f1, fa ++ f2, ?_, ?_⟩
        · exact (List.Perm.append_left _ pp).trans perm_mid
        · rw [List.map_cons, List.map_cons, List.zip_cons_cons, List.map_cons]
          simp only [e, if_true]
          exact RpAll.cons (f := []) (hd S H) r
      · refine ⟨fa ++ f1, f2, ?_, ?_⟩
        · rw [List.append_assoc]
          exact List.Perm.append_left _ pp
        · rw [List.map_cons, List.map_cons, List.zip_cons_cons, List.map_cons]
          simp only [e, if_false]
          exact RpAll.cons h1 r
theorem tput_ok {a : Addr} {f f0 : List Addr} {kvs : List (List Key × V)} {ds : List D} {m n : Nat} {v : V} {d : D} {k : List Key} (ha : H a = some (.dT kvs)) (ok : Ok S H (f ++ (a :: f0))) (r : RpAll K S H m (kvs.map (·.2)) ds f0) (h : Rp K S H n v d f)
    (hk : d.imm = true ∨ ((tzip kvs ds).any fun p => p.1.same (tD k)) = false) :
    ∃ S' ff, Step S (f ++ (a :: f0)) H S' (a :: ff) (upd H a (.dT (putK kvs k v))) ∧ Rp K S' (upd H a (.dT (putK kvs k v))) ((if d.imm = true then m else min m n) + 1) (.ref a) (.dic true (dPut (tzip kvs ds) (tD k) d)) (a :: ff) ∧ Ok S' (upd H a (.dT (putK kvs k v))) (a :: ff) := by
  have hl : kvs.length = ds.length := by have := r.length; rwa [List.length_map] at this
  rw [tput_zip (w := v) hl]
  rw [tany_zip hl] at hk
  by_cases c : (kvs.any fun kv => decide (kv.1 = k)) = true
  · have hi : d.imm = true := hk.resolve_right (by rw [c]; simp)
    rw [if_pos c, if_pos hi]
    obtain ⟨rfl, hd⟩ := h.imm hi
    obtain ⟨f1, f2, pp, r2⟩ := tput_imm (k := k) (v := v) (d := d) (fun S H => hd S H m) r
    have e : putK kvs k v = kvs.map fun kv => if kv.1 = k then (kv.1, v) else kv := by unfold putK; rw [if_pos c]
    rw [← e] at r2
    obtain ⟨w1, w2, w3⟩ := write_okT (h := []) (f1 := f2) ha ok (by
      show (a :: f0).Perm (a :: f1 ++ f2)
      exact List.Perm.cons a pp) (r2.more fun b => Or.inl)
    exact ⟨_, _, w1, w2, w3⟩
  · rw [if_neg c]
    obtain ⟨ff, gg, fx, p, r1, r2⟩ := r.meet h
    have e : putK kvs k v = kvs ++ [(k, v)] := by unfold putK; rw [if_neg c]
    have r3 : RpAll K (fun b => S b ∨ b ∈ fx) H (if d.imm = true then m else min m n) ((putK kvs k v).map (·.2)) (ds ++ [d]) (ff ++ (gg ++ [])) := by
      rw [e, List.map_append]
      exact RpAll.append r1 (.cons r2 (.nil _))
    rw [List.append_nil] at r3
    obtain ⟨w1, w2, w3⟩ := write_okT (h := []) ha ok (by
      show (f ++ (a :: f0)).Perm (a :: (ff ++ gg) ++ fx)
      exact List.perm_append_comm.trans (List.Perm.cons a p)) r3
    exact ⟨_, _, w1, w2, w3⟩
end
section
variable {ct : Str → Addr} {lent : List Bool} {X : Cx} {b : Expr} {gb : M} {pos p : Pos}
theorem sg_tset {k0 : Nat} (hr : Room k0 X.A) {i : Nat} {x : Str} (hb : SE ct X b gb) (hN : X.N[i]? = some x := by rfl) (hv : Vis X.env.scope x := by first | exact Or.inl rfl | exact Or.inr (Or.inl rfl) | exact Or.inr (Or.inr rfl)) (hd : (x == ("__debug__" : Str)) = false := by decide)
    (hcd : (x == ("__classdict__" : Str)) = false := by decide)
    (ha : ∀ v, assign (.Subscript (.Name x p) b pos) X.env v = (do
      let ov ← holding [v] (eval (.Name x p) X.env)
      let iv ← holding [v, ov] (eval b X.env)
      standAt pos
      holding [v, ov, iv] (setItem ov iv v)
      release [v, ov, iv] []) := by intro _; rfl) : SG ct lent X (.Subscript (.Name x p) b pos) (gsetT i gb) := by
  refine ⟨fun W tk => ?_⟩
  obtain ⟨tb, pb, rb⟩ := hb.run W tk
  refine ⟨_, pg_sub (pv i hN hv hd hcd) pb (set_dict (by have := units_of hr; omega)) ha, fun S F H σ ρ xx v f D Q h E ok q G => ?_⟩
  unfold gsetT at G
  cases q0 : look ρ i with
  | none => rw [q0] at G; exact G.elim
  | some pv0 =>
    obtain ⟨m0, d0⟩ := pv0
    obtain ⟨v0, f0', G0, h1, hz0⟩ := E.take q0
    refine ⟨v0, h1, rb S F H σ ρ _ E ok.tail ?_⟩
    rw [q0] at G
    cases qb : gb ρ with
    | no => rw [qb] at G; exact G
    | ex ee ρ1 =>
      rw [qb] at G
      exact fun C d S' F' H' st E' o' hx => G C d σ S' F' H' (st.wide (fun b hb => List.mem_append_right _ hb) fun b hb => .inl hb) E' o' Kp.refl hx
    | ok y o =>
      rw [qb] at G
      intro w S1 F1 H1 g t1 hy E1 k1
      replace G : GoodS X.K ct lent W D S (f ++ F) H σ (match look (now o ρ) i with
        | some (m + 1, .dic true l) => if xx.stable = true ∧ isKeyT y = true ∧ l.length < lim ∧ (xx.d.imm = true ∨ (l.any fun p => p.1.same y.d) = false) then .nx (Vs.put (now o ρ) i (some ((if xx.d.imm = true then m else min m xx.m) + 1, .dic true (dPut l y.d xx.d)))) else .no
        | _ => .no) := G
      split at G
      · rename_i _ m l ql
        split at G
        · rename_i c
          obtain ⟨hs, c2, c3, c4⟩ := c
          obtain ⟨bk, k, hk, rfl, hbk, rfl⟩ := hy.keyT c2
          rw [hk] at G c4
          have hx := (h.step (t1.step.less fun b hb => hb) ok.tail ok.apart hs).stab hs
          obtain ⟨v1, f1, G1, h1', h2, pf, E2⟩ := E1.take ql
          rw [h1] at h1'
          cases h1'
          have k1 : Ok S1 H1 F1 := k1
          have st1 : Step S F H S1 F1 H1 := t1.step
          obtain ⟨aa, kvs, ds, ff0, rfl, rfl, hq, r, z1, z2⟩ := h2.dicT
          obtain rfl := z2 (by omega)
          have ha := hq
          replace r : RpAll X.K S1 H1 m (kvs.map (·.2)) ds ff0 := r
          have k2 : Ok S1 H1 (f ++ ((aa :: ff0) ++ G1)) := (Ok.join st1 ok k1).perm (List.Perm.append_left _ pf)
          have k3 : Ok S1 H1 ((f ++ (aa :: ff0)) ++ G1) := by rw [List.append_assoc]; exact k2
          have hl : kvs.length = ds.length := by have := r.length; rwa [List.length_map] at this
          obtain ⟨S2, ff, w1, w2, w3⟩ := tput_ok (k := k) ha k3.head r hx c4
          refine ⟨aa, _, rfl, DPut.t ha hbk ?_, q _ _ ?_⟩
          · have : (tzip kvs ds).length = kvs.length := by unfold tzip; rw [List.length_zip, List.length_map, ← hl, Nat.min_self]
            rw [this, Vs.lim_eq] at c3
            exact c3
          have E3 : EnvRp X.K S2 _ σ (Vs.put (now o ρ) i none) G1 := E2.step w1 k3.head fun b hb z => k3.apart b z hb
          have k4 : Ok S2 _ (G1 ++ (aa :: ff)) := Ok.join w1 (k3.perm List.perm_append_comm) w3
          have st2 : Step S (f ++ F) H S1 (f ++ F1) H1 := st1.wide (fun b hb => List.mem_append_right _ hb) fun b hb => (List.mem_append.mp hb).elim (fun z => .inr (List.mem_append_left _ z)) .inl
          refine G σ S2 ((aa :: ff) ++ G1) _ (st2.trans (w1.wide (fun b hb => ?_) fun b hb => ?_)) (E3.back h1 w2) (k4.perm List.perm_append_comm) Kp.refl
          · rcases List.mem_append.mp hb with z | z
            · exact List.mem_append_left _ z
            · exact List.mem_append_right _ (pf.mem_iff.mpr (List.mem_append_left _ z))
          · rcases List.mem_append.mp hb with z | z
            · exact .inl z
            · exact .inr (List.mem_append_right _ (pf.mem_iff.mpr (List.mem_append_right _ z)))
        · exact G.elim
      · exact G.elim
end
section
variable {K : PySem.W.Frag}
theorem kDivmod_op : OpN K (fun xs H Q => ∃ i j, xs = [V.int i, V.int j] ∧ CDiv i j ∧ ∀ p, H p = none → Q (.ref p) (upd H p (.tup [.int (i / j), .int (i % j)]))) kDivmod := fun S H xs vs f z Q h ok e hQ => by
  unfold kDivmod at e
  split at e
  · rename_i x y
    split at e
    · rename_i i j e1 e2
      split at e
      · rename_i c
        obtain rfl := Option.some.inj e
        obtain ⟨v, w, f1, f2, rfl, rfl, h1, h2⟩ := h.two
        refine ⟨i, j, by rw [h1.int e1, h2.int e2], c, fun p hp => ?_⟩
        exact ret_tup (S' := S) (g := []) ok (fun _ z => z) (fun _ => .inl) ok.nil (by simp) (RpAll.cons (f := []) (g := []) (.int 0 _) (RpAll.cons (f := []) (g := []) (.int 0 _) (.nil 0))) hQ p hp
      · cases e
    · cases e
  · cases e
end
section
variable {ct : Str → Addr} {X : Cx} {a : Expr} {ga : M} {pos : Pos}
theorem s_slcE {lo hi : Option Expr} {gl gh : Option M} {p2 : Pos} (ha : SE ct X a ga) (hl : SO ct X lo (part gl)) (hh : SO ct X hi (part gh)) : SE ct X (.Subscript a (.Slice lo hi none p2) pos) (slcE ga gl gh) := by
  refine ⟨fun W tk => ?_⟩
  obtain ⟨ta, pa, ra⟩ := ha.run W tk
  obtain ⟨tl, pl, rl⟩ := hl.run W tk
  obtain ⟨th, ph, rh⟩ := hh.run W tk
  refine ⟨_, pe_slice sl_list pa pl ph, fun S F H σ ρ Q E ok G => ra S F H σ ρ _ E ok ?_⟩
  unfold slcE at G
  refine good_bind G fun x o1 v S1 F1 H1 f _ t1 h1 E1 k1 G => ?_
  refine rl S1 F1 H1 σ _ _ E1 k1.tail ?_
  have none_of : ∀ {β : Type} {r : R (Option Int)} {kk : Option Int → R β}, (∃ a o, r = .ok a (some o)) → (r.nxt false kk) = .no := by
    rintro β r kk ⟨a, o, rfl⟩
    rfl
  cases ql : part gl (now o1 ρ) with
  | no => rw [ql] at G; exact G
  | ex x ρ1 =>
    rw [ql] at G
    intro C d S2 F2 H2 st E2 k2 hx
    exact G C d S2 F2 H2 ((t1.step.less fun b hb => List.mem_append_right _ hb).trans st) E2 k2 hx
  | ok l ol =>
    rw [ql] at G
    cases ol with
    | some _ => exact G.elim
    | none =>
      intro l' S2 F2 H2 f2 t2 hl2 E2 k2
      obtain ⟨rfl, rfl⟩ := hl2
      obtain ⟨e2, w2, w2', rfl, _⟩ := id t2
      have h2 := (h1.same e2).more w2
      have k2' : Ok S2 H2 (f ++ F2) := Ok.join (t2.step.less fun b hb => hb) k1 k2
      refine rh S2 F2 H2 σ _ _ E2 k2 ?_
      replace G : Good X.K ct (VOk X.K) W S F H σ ρ ((((part gh (now o1 ρ)).nxt x.stable fun u => .ofO (kSl x l u)).aft none).aft o1) Q := G
      rw [R.aft_none] at G
      show Good X.K ct _ W S2 F2 H2 σ (now o1 ρ) (part gh (now o1 ρ)) _
      cases qh : part gh (now o1 ρ) with
      | no => rw [qh] at G; exact G
      | ex x ρ1 =>
        rw [qh] at G
        intro C d S3 F3 H3 st E3 k3 hx
        exact G C d S3 F3 H3 ((t1.step.less fun b hb => List.mem_append_right _ hb).trans (t2.step.trans st)) E3 k3 hx
      | ok u oh =>
        rw [qh, R.nxt_ok] at G
        intro u' S3 F3 H3 f3 t3 hl3 E3 k3
        obtain ⟨rfl, rfl⟩ := hl3
        split at G
        · rename_i hs
          have h3 : VOk X.K S3 H3 x v f := by
            cases oh with
            | none =>
              obtain ⟨e3, w3, w3', rfl, _⟩ := id t3
              exact (h2.same e3).more w3
            | some _ => exact h2.step (t3.step.less fun b hb => hb) k2'.tail k2'.apart (by simpa using hs)
          have k3' : Ok S3 H3 (f ++ F3) := by
            have := Fit.both k2' t3 k3
            rwa [List.append_nil] at this
          have ea : ((R.ofO (kSl x l u)).aft oh).aft o1 = (R.ofO (kSl x l u)).aft (Vs.thn o1 oh) := aft_aft _ _ _
          rw [ea] at G
          have t13 : Fit (Vs.thn o1 oh) S F H S3 F3 f H3 := by
            have a1 := t1.thn k1 (o' := none) t2 (h := f) (fun b hb => .inl hb) (Same.refl _)
            have a2 := a1.thn k2' t3 (h := f) (fun b hb => .inl hb) (Same.refl _)
            exact a2
          have en : now (Vs.thn o1 oh) ρ = now oh (now o1 ρ) := by cases oh <;> rfl
          rw [← en] at E3
          refine fin_rule (g := f) (F2 := F3) (S2 := S3) (t := fun Q => rSlL X.K v l u H3 Q) t13 E3 k3' (fun z hz Q hq => ?_) G
          unfold kSl at hz
          split at hz
          · rename_i ds el
            split at hz
            · rename_i c
              obtain rfl := Option.some.inj hz
              obtain ⟨b1, m1, d1⟩ := x
              obtain rfl : d1 = .lst ds := el
              obtain ⟨a, xs, S4, rfl, q1, u1, u2, r1, k4⟩ := opn (F := []) h3 (by rw [List.append_nil]; exact k3'.head) c
              refine ⟨a, xs, rfl, q1, fun p hp => ?_⟩
              have rc : RpAll X.K S4 H3 0 (cutV xs l u) (cutD ds l u) [] := by
                unfold cutV cutD
                rw [six_eq, six_eq, r1.length]
                exact ((r1.cut0 _).2.cut0 _).1
              exact ret_lst k3'.head u1 u2 k4 (by simp) rc hq p hp
            · cases hz
          · cases hz
        · exact G.elim
end
end Vs
set_option maxHeartbeats 4000000
namespace Vs
open PySem (Str PyData)
/-! ### slots made even: some are let go, some are known less deep -/
def even (is ks : List Nat) (ρ : Env) : Env := thin 0 ks (wipeE is ρ)
def Fl.map (f : Env → Env) : Fl → Fl
  | .nx ρ => .nx (f ρ) | .brk ρ => .brk (f ρ) | .ct ρ => .ct (f ρ) | .ret x ρ => .ret x ρ | .ex e ρ => .ex e ρ | .no => .no
/-- ahead of a part -/
def pre (is ks : List Nat) (g : MS) : MS := fun ρ => g (even is ks ρ)
/-- behind a part -/
def tdy (is ks : List Nat) (g : MS) : MS := fun ρ => (g ρ).map (even is ks)
theorem le_pre {is ks : List Nat} {g g' : MS} (h : leS g g') : leS (pre is ks g) (pre is ks g') := fun ρ => h _
theorem le_tdy {is ks : List Nat} {g g' : MS} (h : leS g g') : leS (tdy is ks g) (tdy is ks g') := fun ρ => by
  unfold tdy
  rcases h ρ with e | e
  · rw [e]; exact .inl rfl
  · rw [e]; exact .inr rfl
theorem e_pre {is ks : List Nat} {g : MS} {ρ : Env} : pre is ks g ρ = g (even is ks ρ) := (rfl)
theorem e_tdy {is ks : List Nat} {g : MS} {ρ : Env} : tdy is ks g ρ = (g ρ).map (even is ks) := (rfl)
theorem e_even {is ks : List Nat} {ρ : Env} : even is ks ρ = thin 0 ks (wipeE is ρ) := (rfl)
@[simp] theorem m_nx {f : Env → Env} {ρ : Env} : Fl.map f (.nx ρ) = .nx (f ρ) := (rfl)
@[simp] theorem m_brk {f : Env → Env} {ρ : Env} : Fl.map f (.brk ρ) = .brk (f ρ) := (rfl)
@[simp] theorem m_ct {f : Env → Env} {ρ : Env} : Fl.map f (.ct ρ) = .ct (f ρ) := (rfl)
@[simp] theorem m_ret {f : Env → Env} {ρ : Env} {x : PV} : Fl.map f (.ret x ρ) = .ret x ρ := (rfl)
@[simp] theorem m_ex {f : Env → Env} {ρ : Env} {e : Ex} : Fl.map f (.ex e ρ) = .ex e ρ := (rfl)
@[simp] theorem m_no {f : Env → Env} : Fl.map f .no = .no := (rfl)
/-- xs.count(y) -/
def kCountD (x : VV) (xs : List VV) : Option VV := match x.d, xs with
  | .lst l, [y] => if x.d.shp = true ∧ y.d.shp = true then some (vi (l.countP fun z => z.eqv y.d : Nat)) else none
  | _, _ => none
def kIsi2 (t u : Ty) (x : VV) : Option VV := match x.d.isTy t, x.d.isTy u with
  | some a, some b => some (vb (a || b)) | _, _ => none
/-- xs[c] += k of whole numbers -/
def augC (i : Nat) (c k : Int) : MS := fun ρ => match look ρ i with
  | some (m + 1, .lst l) => (match nix l.length c with
    | some j => (match l[j]? with | some (.int a) => .nx (put ρ i (some (m + 1, .lst (l.set j (.int (a + k)))))) | _ => .no)
    | none => .no)
  | _ => .no
theorem e_augC {i : Nat} {c k : Int} {ρ : Env} : augC i c k ρ = match look ρ i with
  | some (m + 1, .lst l) => (match nix l.length c with
    | some j => (match l[j]? with | some (.int a) => .nx (put ρ i (some (m + 1, .lst (l.set j (.int (a + k)))))) | _ => .no)
    | none => .no)
  | _ => .no := (rfl)
/-- xs * n of plain items, xs its own (asked or not) -/
def kMulB (x y : VV) : Option VV := match x.d, y.d with
  | .lst l, .int k => if 0 < x.m ∧ l.all D.imm = true ∧ -(2 ^ 63) ≤ k ∧ k < 2 ^ 63 ∧ l.length * k.toNat ≤ lim then some ⟨false, 1, .lst (List.replicate k.toNat l).flatten⟩ else none
  | _, _ => none
/-! loops, by the slots ahead of each turn -/
theorem forL_eq {g : MG} {b : MS} : ∀ (ds : List D) (e : Nat → Env), (∀ k d, ds[k]? = some d → (g ⟨false, 0, d⟩ (e k)).seq b = .nx (e (k + 1))) → forL g b ds (e 0) = .nx (e ds.length)
  | [], e, _ => rfl
  | d :: ds, e, h => by
    unfold forL
    rw [h 0 d rfl]
    exact forL_eq ds (fun k => e (k + 1)) fun k d' hd => h (k + 1) d' (by simpa using hd)
theorem forV_eq {i : Nat} {w : Nat → D → D} {g : MG} {b : MS} {ds : List D} {m0 : Nat} {e : Nat → Env} (hi : ds.all D.imm = true) (hl : ∀ k, look (e k) i = some (m0, .lst ds))
    (h : ∀ k d, ds[k]? = some d → (g ⟨false, 0, w k d⟩ (e k)).seq b = .nx (e (k + 1))) : ∀ n k, n + k = ds.length → forV i w g b n k (e k) = .nx (e ds.length)
  | 0, k, hk => by
    unfold forV
    rw [hl k]
    simp only
    rw [if_pos (by omega), show k = ds.length by omega]
  | n + 1, k, hk => by
    have hk2 : k < ds.length := by omega
    have hd : ds[k]? = some ds[k] := List.getElem?_eq_getElem hk2
    unfold forV
    rw [hl k]
    simp only [hd, List.all_eq_true.mp hi _ (List.getElem_mem hk2), if_true, h k _ hd]
    exact forV_eq hi hl h n (k + 1) (by omega)
theorem forsV_eq {i : Nat} {w : Nat → D → D} {g : MG} {b o : MS} {ds : List D} {m0 : Nat} (e : Nat → Env) (hi : ds.all D.imm = true) (hl : ∀ k, look (e k) i = some (m0, .lst ds))
    (h : ∀ k d, ds[k]? = some d → (g ⟨false, 0, w k d⟩ (e k)).seq b = .nx (e (k + 1))) : forsV i w g b o (e 0) = .nx (e ds.length) := by
  unfold forsV
  rw [hl 0]
  simp only [hi, if_true]
  exact forV_eq hi hl h _ 0 (by omega)
/-- .. of plain items or not -/
theorem forsV_eq' {i : Nat} {w : Nat → D → D} {g : MG} {b : MS} {it : MI} {ds : List D} {m0 : Nat} (e : Nat → Env) (hl : ∀ k, look (e k) i = some (m0, .lst ds)) (hw : it (e 0) = .ok ((List.range ds.length).zip ds |>.map fun p => w p.1 p.2) none)
    (h : ∀ k d, ds[k]? = some d → (g ⟨false, 0, w k d⟩ (e k)).seq b = .nx (e (k + 1))) : forsV i w g b (fors it g b) (e 0) = .nx (e ds.length) := by
  by_cases hi : ds.all D.imm = true
  · exact forsV_eq e hi hl h
  · unfold forsV
    rw [hl 0]
    simp only [hi]
    show fors it g b (e 0) = _
    unfold fors
    rw [hw]
    show forL g b _ (e 0) = _
    have := forL_eq (g := g) (b := b) (((List.range ds.length).zip ds).map fun p => w p.1 p.2) e (fun k d hd => by
      rw [List.getElem?_map] at hd
      cases q : ((List.range ds.length).zip ds)[k]? with
      | none => rw [q] at hd; cases hd
      | some p =>
        rw [q] at hd
        cases hd
        rw [List.getElem?_zip_eq_some] at q
        obtain ⟨q1, q2⟩ := q
        have hk : k < ds.length := (List.getElem?_eq_some_iff.mp q2).1
        rw [List.getElem?_range hk] at q1
        cases q1
        exact h _ _ q2)
    rw [this]
    simp
end Vs
set_option maxHeartbeats 4000000
namespace Vs
open PySem PySem.Spec PyProof.Rows L2
section
variable {K : PySem.W.Frag} {S : Addr → Prop} {H : Hp} {F : List Addr} {σ : L2.St} {ρ : Vs.Env}
theorem even_env (is ks : List Nat) (E : EnvRp K S H σ ρ F) (ok : Ok S H F) : ∃ S' F', Step S F H S' F' H ∧ EnvRp K S' H σ (even is ks ρ) F' ∧ Ok S' H F' := by
  obtain ⟨f, G, p, E1⟩ := E.wipe is
  have ok1 : Ok S H G := (ok.perm p).tail
  have st1 : Step S F H S G H := Step.refl.less fun b hb => p.mem_iff.mpr (List.mem_append_right _ hb)
  obtain ⟨S', F', st, E', ok'⟩ := thin_env 0 ks E1 ok1
  exact ⟨S', F', st1.trans st, E', ok'⟩
theorem even_envR {f : List Addr} (is ks : List Nat) (E : EnvRp K S H σ ρ F) (ok : Ok S H F) : ∃ S' F', Step S F H S' F' H ∧ EnvRp K S' H σ (even is ks ρ) F' ∧ Ok S' H F' := even_env is ks E ok
end
section
variable {K : PySem.W.Frag} {ct : Str → Addr} {lent : List Bool} {W : WX} {D : Ends} {S : Addr → Prop} {F : List Addr} {H : Hp} {σ : L2.St}
theorem GoodS.of_even {is ks : List Nat} {fl : Fl} (g : GoodS K ct lent W D S F H σ (fl.map (even is ks))) : GoodS K ct lent W D S F H σ fl := by
  cases fl with
  | nx ρ' =>
    intro σ' S' F' H' t E o k
    obtain ⟨S2, F2, st, E2, o2⟩ := even_env is ks E o
    exact g σ' S2 F2 H' (t.trans st) E2 o2 k
  | brk ρ' =>
    intro σ' S' F' H' t E o k
    obtain ⟨S2, F2, st, E2, o2⟩ := even_env is ks E o
    exact g σ' S2 F2 H' (t.trans st) E2 o2 k
  | ct ρ' =>
    intro σ' S' F' H' t E o k
    obtain ⟨S2, F2, st, E2, o2⟩ := even_env is ks E o
    exact g σ' S2 F2 H' (t.trans st) E2 o2 k
  | ret pv ρ' => exact g
  | ex e ρ' => exact g
  | no => exact g
end
section
variable {ct : Str → Addr} {lent : List Bool} {X : Cx} {st : Stmt} {body : List Stmt} {g : MS} {is ks : List Nat}
theorem ss_pre (h : SS ct lent X st g) : SS ct lent X st (pre is ks g) := by
  refine ⟨fun W tk po => ?_⟩
  obtain ⟨t, p, r⟩ := h.run W tk po
  refine ⟨t, p, fun S F H σ ρ D E ok G => ?_⟩
  obtain ⟨S', F', s1, E', ok'⟩ := even_env is ks E ok
  exact r S' F' H σ _ D E' ok' (GoodS.from s1 Kp.refl G)
theorem sss_pre (h : SSs ct lent X body g) : SSs ct lent X body (pre is ks g) := by
  refine ⟨fun W tk po => ?_⟩
  obtain ⟨t, p, r⟩ := h.run W tk po
  refine ⟨t, p, fun S F H σ ρ D E ok G => ?_⟩
  obtain ⟨S', F', s1, E', ok'⟩ := even_env is ks E ok
  exact r S' F' H σ _ D E' ok' (GoodS.from s1 Kp.refl G)
theorem sss_tdy (h : SSs ct lent X body g) : SSs ct lent X body (tdy is ks g) := by
  refine ⟨fun W tk po => ?_⟩
  obtain ⟨t, p, r⟩ := h.run W tk po
  exact ⟨t, p, fun S F H σ ρ D E ok G => r S F H σ ρ D E ok (GoodS.of_even G)⟩
theorem ss_tdy (h : SS ct lent X st g) : SS ct lent X st (tdy is ks g) := by
  refine ⟨fun W tk po => ?_⟩
  obtain ⟨t, p, r⟩ := h.run W tk po
  exact ⟨t, p, fun S F H σ ρ D E ok G => r S F H σ ρ D E ok (GoodS.of_even G)⟩
end
/-- a def that calls itself: nothing is promised at the bottom -/
theorem Fn.none {P : Program} {w : World} {K : PySem.W.Frag} {mg : Str → Option Value} {base : Heap} {ct : Str → Addr} {k : Nat} {f : Addr} {fd : FuncData} {ps : List Str} : Fn P w K mg base ct k f fd ps (fun _ => .no) :=
  ⟨fun A outer s H args us vs Q E _ _ _ _ _ h => by
    obtain ⟨_, _, _, _, _, _, q⟩ := h
    exact q.elim⟩
end Vs
set_option maxHeartbeats 4000000
namespace Vs
open PySem PySem.Spec PyProof.Rows L2
/-! xs.count(y): data of any depth -/
def rCntD (K : PySem.W.Frag) : V → List V → Hp → VK → Prop := fun x xs H Q => ∃ (a : Addr) (y : V) (d : PyData) (ds : List PyData), x = V.ref a ∧ xs = [y] ∧ Dp K H (V.ref a) (.list ds) ∧ Dp K H y d ∧
  SeqAt.shaped (.list ds) = true ∧ SeqAt.shaped d = true ∧ Q (.int (ds.countP fun z => PyData.eqv z d : Nat)) H
theorem countP_map' {α β : Type} (f : α → β) (p : β → Bool) : ∀ l : List α, (l.map f).countP p = l.countP fun x => p (f x)
  | [] => rfl
  | a :: l => by rw [List.map_cons, List.countP_cons, List.countP_cons, countP_map' f p l]
theorem mt_countD {X : Cx} (hu : X.A.units + 65 < cLine) : MtR X "list.count" (rCntD X.K) := by
  intro pins s σ H x xs v us Q I rx rxs h
  obtain ⟨a, y, d, ds, rfl, rfl, hl, hy, sl, sd, q⟩ := h
  cases rx
  cases rxs with
  | cons ry rt =>
    rename_i uy ut
    cases rt
    obtain ⟨bs, r1⟩ := Dp.reads I d y uy hy ry
    have hxs : PyData.canLayAll0 ds = true := SeqAt.canLay_of_shaped sl
    have hroom : X.A.units + 1 + min (PyData.depthAll ds) d.depth < cLine := room_in_shaped sd hu
    cases hl with
    | lst hs ha =>
      obtain ⟨its, rv, ⟨⟨cls, dd, data, sls⟩, n, ho, hc, hdn, hdt⟩, hlen⟩ := I.list hs
      simp only at hc hdt
      subst hc hdt
      obtain ⟨as, h4⟩ := Dp.readsAll I ds _ its ha rv
      have hmap : its.map (SeqAt.readOf s.heap) = ds := SeqAt.readsAll_map ds its as hxs h4
      refine call_meets PySem.F.slot_list_count ⟨_, ho, rfl⟩ PySem.F.entry_list_count (PySem.F.args_list_count_2 _ _)
        (SeqAt.list_countAt a its.toArray n dd sls uy (fun u => PyData.eqv (SeqAt.readOf s.heap u) d)) ⟨ho, SeqAt.items_eqAt (vs := its.toArray) (show ReadsAll s.heap its.toArray.toList ds as from h4) r1 hxs (SeqAt.canLay_of_shaped sd) hroom, ?_⟩
      have ec : its.toArray.toList.countP (fun u => PyData.eqv (SeqAt.readOf s.heap u) d) = ds.countP fun z => PyData.eqv z d := by
        rw [← hmap, countP_map']
      refine ⟨.int (ds.countP fun z => PyData.eqv z d : Nat), H, I.tok _, ⟨s.toks, ?_⟩, q⟩
      show Value.int ((its.toArray.toList.countP (fun u => PyData.eqv (SeqAt.readOf s.heap u) d) : Nat) : Int) s.toks = Value.int ((ds.countP fun z => PyData.eqv z d : Nat) : Int) s.toks
      rw [ec]
theorem pyAll_countP (p : PyData → Bool) : ∀ l : List Vs.D, (pyAll l).countP p = l.countP fun z => p z.py
  | [] => rfl
  | d :: l => by rw [pyAll, List.countP_cons, List.countP_cons, pyAll_countP p l]
section
variable {X : Cx}
theorem kCountD_mt : Meth1 X.K (rCntD X.K) kCountD := fun S H x v f xs vs g z Q h hx ok e hQ => by
  unfold kCountD at e
  split at e
  · rename_i l y el
    split at e
    · rename_i c
      obtain rfl := Option.some.inj e
      obtain ⟨u, rfl, hy⟩ := hx.one
      have q := h.dp c.1
      have s := (shp_flat c.1).2
      obtain ⟨a, ys, m', g', rfl, q1, q2⟩ := h.seqL el
      rw [el, D.py] at q s
      refine ⟨a, u, y.d.py, pyAll l, rfl, rfl, q, hy.dp c.2, s, (shp_flat c.2).2, ?_⟩
      rw [pyAll_countP]
      exact ret_imm ok rfl (.int _ _) hQ
    · cases e
  · cases e
end
end Vs
set_option maxHeartbeats 4000000
namespace Vs
open PySem PySem.Spec PyProof.Rows L2
/-! isinstance(x, (t, u)) -/
section
variable {ct : Str → Addr} {X : Cx} {a : Expr} {ga : M} {p pos : Pos}
def rIsi2 (K : PySem.W.Frag) (t u : Ty) : V → Hp → VK → Prop := fun x H Q => 2 ≤ sizeLine ∧ ∀ q, H q = none → rIsiT K [x, .ref q] (upd H q (.tup [.ty (Ty.nm t), .ty (Ty.nm u)])) Q
theorem kIsi2_op (t u : Ty) : Op1 X.K (rIsi2 X.K t u) (kIsi2 t u) := fun S H x v f z Q h ok e hQ => by
  unfold kIsi2 at e
  cases q1 : x.d.isTy t with
  | none => rw [q1] at e; cases e
  | some r1 =>
    cases q2 : x.d.isTy u with
    | none => rw [q1, q2] at e; cases e
    | some r2 =>
      rw [q1, q2] at e
      obtain rfl := Option.some.inj e
      refine ⟨by decide, fun q hq => ?_⟩
      have h2 := h.same (same_upd (o := HO.tup [.ty (Ty.nm t), .ty (Ty.nm u)]) hq)
      obtain ⟨g, h'⟩ := h2.rp
      obtain ⟨n, h3, h4⟩ := h'.tyx (fun c l z => by rw [z] at q1; cases q1)
      refine ⟨v, q, _, _, [.type (Ty.nm t), .type (Ty.nm u)], r1 || r2, rfl, upd_same, .cons (.ty _) (.cons (.ty _) .nil), h3, ?_, ?_⟩
      · refine kitAny_cons (kit_ty (h4 t r1 q1)) (fun hb => ?_) fun hb => by rw [hb]; rfl
        refine kitAny_cons (kit_ty (h4 u r2 q2)) (fun hb2 => ?_) fun hb2 => by rw [hb, hb2]; rfl
        rw [hb, hb2]
        rfl
      · exact hQ _ _ S [] (new_grow ok hq (fun _ z => z) (fun _ => .inl) (by simp)) (by rw [VOk.own]; exact .bl _ _) (new_ok ok.nil hq)
theorem s_isi2 (t u : Ty) {y z : Str} {p1 p2 tpos : Pos} {kk : Nat} (hg : Gl X "isinstance") (hm : X.mg "isinstance" = none) (hg1 : Gl X y) (hm1 : X.mg y = none) (hv1 : bootBuiltins y = some (.type (Ty.nm t))) (hn1 : y ≠ "__name__") (hd1 : (y == ("__debug__" : Str)) = false)
    (hg2 : Gl X z) (hm2 : X.mg z = none) (hv2 : bootBuiltins z = some (.type (Ty.nm u))) (hn2 : z ≠ "__name__") (hd2 : (z == ("__debug__" : Str)) = false) (ha : SE ct X a ga)
    (he : starEach (a :: [.Tuple [.Name y p1, .Name z p2] kk tpos]) X.env = (false, eval a X.env) :: starEach [.Tuple [.Name y p1, .Name z p2] kk tpos] X.env := by rfl)
    (he' : starEach [.Tuple [.Name y p1, .Name z p2] kk tpos] X.env = (false, eval (.Tuple [.Name y p1, .Name z p2] kk tpos) X.env) :: starEach [] X.env := by rfl)
    (he1 : starEach (.Name y p1 :: [.Name z p2]) X.env = (false, eval (.Name y p1) X.env) :: starEach [.Name z p2] X.env := by rfl)
    (he2 : starEach [.Name z p2] X.env = (false, eval (.Name z p2) X.env) :: starEach [] X.env := by rfl)
    (hpl : (backTo pos (starEach [.Tuple [.Name y p1, .Name z p2] kk tpos] X.env)).any (·.1) = false := by rfl) : SE ct X (.Call (.Name "isinstance" p) [a, .Tuple [.Name y p1, .Name z p2] kk tpos] [] pos) (one ga (kIsi2 t u)) :=
  run_one (r := rIsi2 X.K t u) ha (fun pa => pe_callB call_isiT hg hm PyProof.Rows.boot_isinstance (pa_cons pa (pa_cons (pe_tup (pa_cons (pe_bltn hg1 hm1 hv1 (by rfl) hn1 hd1) (pa_cons (pe_bltn hg2 hm2 hv2 (by rfl) hn2 hd2) pa_nil he2) he1)) pa_nil he') he) (by decide) (by decide) he hpl) (kIsi2_op t u)
end
end Vs
set_option maxHeartbeats 4000000
namespace Vs
open PySem PySem.Spec PyProof.Rows L2
/-! xs[c] += k -/
section
variable {ct : Str → Addr} {lent : List Bool} {X : Cx} {pos tpos px : Pos}
theorem get_list : PGet X (rIxL X.K) := by
  intro pins s σ H x y v u Q I rx ry h
  obtain ⟨p, xs, i, z, rfl, rfl, hq, he, q⟩ := h
  cases rx
  obtain ⟨t, rfl⟩ := ry
  obtain ⟨its, r, pl, hz⟩ := I.list hq
  obtain ⟨j, h1, h2, h3, h4, h5⟩ := atI_get he
  obtain ⟨w, ew, rw'⟩ := r.get h2
  have hl := r.length
  have hn := line63
  have fin : EP X pins σ Q w s := ⟨z, H, I, rw', q⟩
  by_cases h0 : 0 ≤ i
  · have hj : i.toNat = j := by
      rw [seqIndex_of h0 h5] at h1
      exact Option.some.inj h1
    exact wpAny_getItem_list pl.isList h0 (by omega) (by rw [hj]; simpa using ew) fin
  · have hj : (i + (its.toArray.size : Int)).toNat = j := by
      rw [seqIndex_neg (by omega) h4] at h1
      rw [List.size_toArray, ← hl]
      exact Option.some.inj h1
    exact wpAny_getItem_list_neg pl.isList (by omega) (by rw [List.size_toArray] <;> omega) (by omega) (by rw [hj]; simpa using ew) fin
theorem ss_augC {i : Nat} {c k : Int} {j1 j2 : Nat} {x : Str} {p1 p2 : Pos} (hN : X.N[i]? = some x := by rfl) (hv : Vis X.env.scope x := by first | exact Or.inl rfl | exact Or.inr (Or.inl rfl) | exact Or.inr (Or.inr rfl)) (hd : (x == ("__debug__" : Str)) = false := by decide)
    (hcd : (x == ("__classdict__" : Str)) = false := by decide)
    (ha : ∀ ov iv new, augStore (.Constant (.int c) j1 p1) ov iv new = (do holding [new, ov, iv] (setItem ov iv new); release [new, ov, iv] []; pure .next) := by intros; rfl) :
    SS ct lent X (.AugAssign (.Subscript (.Name x px) (.Constant (.int c) j1 p1) tpos) .Add (.Constant (.int k) j2 p2) pos) (augC i c k) := by
  refine ⟨fun W tk po => ⟨_, ps_augS (pv i hN hv hd hcd) pe_int get_list pe_int ip_add set_list ha, fun S F H σ ρ D E ok G => ?_⟩⟩
  unfold augC at G
  cases q0 : look ρ i with
  | none => rw [q0] at G; exact G.elim
  | some pv0 =>
    obtain ⟨m0, d0⟩ := pv0
    rw [q0] at G
    cases m0 with
    | zero => exact G.elim
    | succ m =>
      cases d0 with
      | lst l =>
        simp only at G
        cases qn : nix l.length c with
        | none => rw [qn] at G; exact G.elim
        | some j =>
          rw [qn] at G
          simp only at G
          cases ql : l[j]? with
          | none => rw [ql] at G; exact G.elim
          | some d =>
            rw [ql] at G
            cases d with
            | int a =>
              simp only at G
              obtain ⟨v1, f1, G1, h1, h2, pf, E2⟩ := E.take q0
              cases h2 with
              | lst1 ha' r =>
                rename_i aa zs ff0
                have k2 : Ok S H ((aa :: ff0) ++ G1) := ok.perm pf
                have hj : ixN zs.length c = some j := by rw [r.length]; exact qn
                obtain ⟨u, g1, g, g2, hu, e1, ru, _, _⟩ := r.at ql
                obtain rfl := ru.vint
                have hx : Rp X.K S H 0 (.int (a + k)) (.int (a + k)) [] := .int _ _
                have k3 : Ok S H ([] ++ (aa :: ff0)) := k2.head
                obtain ⟨S2, ff, w1, w2, w3⟩ := set_ok ha' k3 r hx (nix_lt qn)
                have hat : atI zs c = some (.int a) := by
                  unfold atI
                  rw [hj]
                  exact hu
                refine ⟨.ref aa, h1, aa, zs, c, .int a, rfl, rfl, .inl (.inl ha'), hat, a, k, rfl, rfl, aa, zs, c, j, rfl, rfl, ha', hj, ?_⟩
                have E3 : EnvRp X.K S2 _ σ (Vs.put ρ i none) G1 := E2.step w1 k3 fun b hb z => k2.apart b z hb
                have k4 : Ok S2 _ (G1 ++ (aa :: ff)) := Ok.join w1 (k2.perm List.perm_append_comm) w3
                refine G σ S2 ((aa :: ff) ++ G1) _ (w1.wide (fun b hb => pf.mem_iff.mpr (List.mem_append_left _ hb)) fun b hb => ?_) (E3.back h1 w2) (k4.perm List.perm_append_comm) Kp.refl
                rcases List.mem_append.mp hb with z | z
                · exact .inl z
                · exact .inr (pf.mem_iff.mpr (List.mem_append_right _ z))
            | _ => exact G.elim
      | _ => exact G.elim
end
section
variable {K : PySem.W.Frag} {S : Addr → Prop} {H : Hp}
theorem RpAll.imm0 : ∀ {m : Nat} {xs : List V} {ds : List D} {f : List Addr}, RpAll K S H m xs ds f → ds.all D.imm = true → ∀ S' H' m', RpAll K S' H' m' xs ds []
  | _, _, _, _, .nil _, _, S', H', m' => .nil _
  | _, _, _, _, .cons h r, hi, S', H', m' => by
    rw [List.all_cons, Bool.and_eq_true] at hi
    exact .cons (f := []) (g := []) ((h.imm hi.1).2 S' H' m') (RpAll.imm0 r hi.2 S' H' m')
theorem kMulB_op : Op2 K rRep kMulB := fun S H x v f y u g z Q h1 h2 ok e hQ => by
  unfold kMulB at e
  split at e
  · rename_i l k e1 e2
    split at e
    · rename_i c
      obtain rfl := Option.some.inj e
      obtain ⟨b1, m1, d1⟩ := x
      obtain rfl : d1 = .lst l := e1
      obtain ⟨c0, c1, c2, c3, c4⟩ := c
      have hk := h2.int e2
      obtain ⟨g0, h3⟩ := h1.rp
      obtain ⟨a, xs, g', rfl, q1, r1, q2, q3⟩ := h3.lst
      obtain ⟨q4, _⟩ := q3 (by have h0 : 0 < m1 := c0; show m1 ≠ 0; omega)
      refine ⟨a, k, xs, rfl, hk, q4, c2, c3, by rw [r1.length, ← lim_eq]; exact c4, fun p hp => ?_⟩
      exact ret_lst (m := 0) ok (fun _ z => z) (fun _ => .inl) ok.nil (by simp) (RpAll.rep (RpAll.imm0 r1 c1 S H 0) _) hQ p hp
    · cases e
  · cases e
end
section
variable {ct : Str → Addr} {X : Cx} {a b : Expr} {ga gb : M} {pos : Pos}
theorem s_mulB (ha : SE ct X a ga) (hb : SE ct X b gb) : SE ct X (.BinOp a .Mult b pos) (two ga gb kMulB) := s_op op_rep kMulB_op ha hb
end
end Vs
set_option maxHeartbeats 4000000
/-! exceptions: raise, try .. except X as n, what a suite asks of the exception. -/
namespace Vs
open PySem (Str PyData)
/-- the fields of the exception that stands at a, its dict at d -/
def exnAt (a d n : Nat) : D → Option (List (Str × D))
  | .ins _ ((n1, .int i) :: (_, .int j) :: fs) => if n1 = "" ∧ i = (a : Int) ∧ j = (d : Int) ∧ fs.length = n then some fs else none
  | _ => none
@[simp] theorem exnAt_eq (a d : Nat) (e : Ex) : exnAt a d e.fs.length (exnD a d e) = some e.fs := by
  simp [exnAt, exnD]
@[simp] theorem exnD_imm (a d : Nat) (e : Ex) : (exnD a d e).imm = false := (rfl)
/-- isinstance(e, ..): the answer is told -/
def kIsE (a d : Nat) (e : Ex) (b : Bool) : VV → Option VV := fun x => (exnAt a d e.fs.length x.d).map fun _ => vb b
/-- e.f -/
def kFldE (a d : Nat) (e : Ex) (f : Str) : VV → Option VV := fun x => (exnAt a d e.fs.length x.d).bind fun fs => (fs.lookup f).map fun y => ⟨false, 0, y⟩
/-- every class of the package is one of these -/
def subE (c C : Str) : Bool := decide (c = C) || decide (C = "GoesError") || decide (C = "ValueError")
def subEs (c : Str) (Cs : List Str) : Bool := Cs.any (subE c)
/-- raise X('..'), raise X(e) -/
def rai0 (c : Str) : MS := fun ρ => .ex ⟨c, []⟩ ρ
def rai1 (c f : Str) (e : M) : MS := fun ρ => (e ρ).go ρ fun x ρ1 => if x.stable = true then .ex ⟨c, [(f, x.d)]⟩ ρ1 else .no
/-- behind a suite: its name is gone; nothing may leave it -/
def shut (i : Nat) : Fl → Fl
  | .nx ρ => .nx (put ρ i none) | .brk ρ => .brk (put ρ i none) | .ct ρ => .ct (put ρ i none)
  | .ret v ρ => .ret v (put ρ i none) | _ => .no
open Classical in
/-- what a suite comes to, wherever the exception stands -/
noncomputable def settle (i : Nat) (f : Nat → Nat → Fl) : Fl := if ∀ a d, shut i (f a d) = shut i (f 0 0) then shut i (f 0 0) else .no
theorem settle_eq {i : Nat} {f : Nat → Nat → Fl} {fl : Fl} (h : ∀ a d, shut i (f a d) = fl) : settle i f = fl := by
  unfold settle
  rw [if_pos fun a d => (h a d).trans (h 0 0).symm, h 0 0]
/-- try: body, except X as n: suite; the exceptions known are all X's -/
noncomputable def tryM (i : Nat) (known : List Str) (body : MS) (suite : Nat → Nat → Ex → MS) : MS := fun ρ => match body ρ with
  | .ex e ρ1 => if e.cls ∈ known then settle i fun a d => suite a d e (put ρ1 i (some (0, exnD a d e))) else .no
  | .nx ρ => .nx ρ | .brk ρ => .brk ρ | .ct ρ => .ct ρ | .ret v ρ => .ret v ρ | .no => .no
theorem try_nx {i : Nat} {kn : List Str} {body : MS} {su : Nat → Nat → Ex → MS} {ρ ρ1 : Env} (h : body ρ = .nx ρ1) : tryM i kn body su ρ = .nx ρ1 := by unfold tryM; rw [h]
theorem try_ret {i : Nat} {kn : List Str} {body : MS} {su : Nat → Nat → Ex → MS} {ρ ρ1 : Env} {v : PV} (h : body ρ = .ret v ρ1) : tryM i kn body su ρ = .ret v ρ1 := by unfold tryM; rw [h]
theorem try_ex {i : Nat} {kn : List Str} {body : MS} {su : Nat → Nat → Ex → MS} {ρ ρ1 : Env} {e : Ex} {fl : Fl} (h : body ρ = .ex e ρ1) (hk : e.cls ∈ kn) (hs : ∀ a d, shut i (su a d e (put ρ1 i (some (0, exnD a d e)))) = fl) : tryM i kn body su ρ = fl := by
  unfold tryM
  rw [h]
  show (if e.cls ∈ kn then _ else _) = _
  rw [if_pos hk]
  exact settle_eq hs
end Vs
set_option maxHeartbeats 4000000
/-! exceptions: the rules. -/
namespace Vs
open PySem PySem.Spec PyProof.Rows L2
/-! ### raise -/
section
variable {ct : Str → Addr} {lent : List Bool} {X : Cx}
theorem ss_rai0 {C : Addr} {c m : Str} {j : Nat} {p p2 pos pos2 : Pos} (hc : X.calm = true) (hct : ct c = C) (q : PySem.W.excIn X.K C [.type "ValueError", .type "Exception", .type "BaseException", .type "object"] "ValueError.__new__" = true) (gC : X.mg c = some (.ref C)) (kC : PySem.W.keepIn X.K (.ref C) = true) (r : Raises X (.ref C)) (hg : Gl X c)
    (hdb : (c == ("__debug__" : Str)) = false := by decide) : SS ct lent X (.Raise (some (.Call (.Name c p) [.Constant (.str m) j p2] [] pos)) none pos2) (rai0 c) := by
  refine ⟨fun W tk po => ⟨_, L2N.ps_raise hc tk (L2N.pmk_own PySem.F.excBase_ValueError q gC kC r hg hdb), fun S F H σ ρ D E ok G => ?_⟩⟩
  exact G _ none σ S F H Step.refl E ok Kp.refl ⟨by rw [hct], .inl ⟨rfl, rfl⟩⟩
theorem ss_rai1 {C fI : Addr} {c fld : Str} {a : Expr} {ga : M} {p pos pos2 : Pos} {k : Nat} (hc : X.calm = true) (hct : ct c = C) (T : XCls X.prog X.K C fI fld) (hr : Room k X.A) (gC : X.mg c = some (.ref C)) (hsup : X.mg "super" = none) (hg : Gl X c) (ha : SE ct X a ga)
    (hdb : (c == ("__debug__" : Str)) = false := by decide) (he : starEach (a :: []) X.env = (false, eval a X.env) :: starEach [] X.env := by rfl) (hpl : (backTo pos (starEach [] X.env)).any (·.1) = false := by rfl) :
    SS ct lent X (.Raise (some (.Call (.Name c p) [a] [] pos)) none pos2) (rai1 c fld ga) := by
  refine ⟨fun W tk po => ?_⟩
  obtain ⟨ta, pa, ra⟩ := ha.run W tk
  refine ⟨_, L2N.ps_raise hc tk (pmk_x T hr (pa_cons pa pa_nil he) hg gC hsup hdb he hpl), fun S F H σ ρ D E ok G => ra S F H σ ρ _ E ok ?_⟩
  refine good_go G fun x o v S1 F1 H1 f st h E1 ok1 G => ?_
  refine ⟨v, rfl, fun d hd => ?_⟩
  by_cases hs : x.stable = true
  · rw [if_pos hs] at G
    obtain ⟨S', u1, u2, r, k2⟩ := froze (h.stab hs) ok1
    have sm : Same H1 (upd H1 d (.xd [(fld, v)])) := same_upd hd
    have nd : ∀ b ∈ F1, b ≠ d := fun b hb z => (k2.mem hb) (z ▸ hd)
    refine G (.ref C) (some d) σ (fun b => S' b ∨ b = d) F1 (upd H1 d (.xd [(fld, v)])) ?_ ((E1.more u1).keep (fun b o _ e => sm b o e) (fun b o e _ => sm b o e) (fun b hb => .inl hb) fun b o _ e => sm b o e) ?_ Kp.refl ?_
    · have st1 : Step S1 (f ++ F1) H1 (fun b => S' b ∨ b = d) F1 (upd H1 d (.xd [(fld, v)])) := by
        refine ⟨fun b o e _ => sm b o e, fun b hb => .inl (u1 b hb), fun b hb => .inl (List.mem_append_right _ hb), fun b hb => ?_⟩
        rcases hb with z | z
        · exact (u2 b z).imp id fun y => .inl (List.mem_append_left _ y)
        · exact .inr (.inr (z ▸ hd))
      exact st.trans st1
    · have k3 := k2.same sm
      refine ⟨k3.nd, k3.mu, fun b hb z => z.elim (k3.ns b hb) (nd b hb), fun b z => z.elim (k3.tr b) fun y => by rw [y, upd_same]; exact fun z => nomatch z⟩
    · refine ⟨by rw [hct], .inr ⟨d, [v], by simp, rfl, .inr rfl, upd_same, ?_⟩⟩
      exact .cons (f := []) (g := []) ((r.more fun b hb => .inl hb).same sm) (.nil _)
  · rw [if_neg hs] at G
    exact G.elim
end
/-! ### what is known of an exception that is handled -/
structure XHeld (ct : Str → Addr) (p : Addr × Obj) (d : Addr) (e : Ex) : Prop where
  zc : ∃ dd, Zc (.ref (ct e.cls)) dd p.2 ∧ ((e.fs = [] ∧ dd = none) ∨ (e.fs ≠ [] ∧ dd = some d))
/-- what the written part says of the classes: kn are raised -/
def xkB (K : PySem.W.Frag) (C : Addr) : Bool :=
  decide (PySem.W.findIn K (.ref C) "__getattribute__" = some (some (.builtin "BaseException.__getattribute__"))) && (decide (PySem.W.findIn K (.ref C) "__getattr__" = some none) && (decide (PySem.W.subIn K (.ref C) (.type "BaseException") = some true) && (PySem.W.hasDictIn K C &&
    (decide (PySem.W.findIn K (.ref C) "__class__" = some (some (.builtin "object.__class__"))) && (decide (PySem.W.specialIn K (.builtin "object.__class__") "__get__" = some (some (.builtin "getset_descriptor.__get__"))) && (decide (PySem.W.takesIn K (.builtin "object.__class__") = some true) && decide (PySem.W.mroIn K C (.type "object") = some true)))))))
structure XKn (K : PySem.W.Frag) (C : Addr) : Prop where
  ga : PySem.W.findIn K (.ref C) "__getattribute__" = some (some (.builtin "BaseException.__getattribute__"))
  gg : PySem.W.findIn K (.ref C) "__getattr__" = some none
  be : PySem.W.subIn K (.ref C) (.type "BaseException") = some true
  hd : PySem.W.hasDictIn K C = true
  ha : PySem.W.findIn K (.ref C) "__class__" = some (some (.builtin "object.__class__"))
  hn : PySem.W.specialIn K (.builtin "object.__class__") "__get__" = some (some (.builtin "getset_descriptor.__get__"))
  ht : PySem.W.takesIn K (.builtin "object.__class__") = some true
  hm : PySem.W.mroIn K C (.type "object") = some true
theorem xkB_ok {K : PySem.W.Frag} {C : Addr} (h : xkB K C = true) : XKn K C := by
  unfold xkB at h
  simp only [Bool.and_eq_true, decide_eq_true_eq] at h
  obtain ⟨h1, h2, h3, h4, h5, h6, h7, h8⟩ := h
  exact ⟨h1, h2, h3, h4, h5, h6, h7, h8⟩
section
variable {K : PySem.W.Frag} {x C : Addr} {ox : Obj}
theorem kitx_held (T : XKn K C) : PySem.W.KitX K (.ref x) (.ref C) (fun h => ∃ od, PySem.W.InstAt h x ox C od) where
  ty := fun _ _ _ ⟨_, I⟩ => I.type
  it := fun _ _ X _ => by
    obtain ⟨cdD, hcD, _⟩ := PySem.W.any_some T.hd
    unfold PySem.W.clsIn at hcD
    split at hcD
    · rename_i c' d' cd' sl' ho
      intro A' Q' E' s' k q
      unfold isType loadHead
      exact wpAny_bind (wpAny_loadPart (k _ _ (X _ _ ho)) (wpAny_pure q))
    · cases hcD
  ne := fun h tp dd its n sl X htp => by
    obtain ⟨cdD, hcD, _⟩ := PySem.W.any_some T.hd
    refine Bool.eq_false_iff.mpr fun q => ?_
    have e : C = tp := Value.ref.inj (beq_iff_eq.mp q)
    subst e
    unfold PySem.W.clsIn at hcD
    split at hcD
    · rename_i c' d' cd' sl' ho
      have z := (X _ _ ho).symm.trans htp
      cases z
    · cases hcD
  ca := fun X ⟨od, I⟩ k => PySem.W.kx_classE X I T.ga T.gg T.be (PySem.W.findObj_dataE (by obtain ⟨cd, hc, _⟩ := PySem.W.any_some T.hd; rw [hc]; rfl) T.ha T.hn T.ht) T.hm k
end
section
variable {ct : Str → Addr} {X : Cx} {p : Addr × Obj} {d : Addr} {e : Ex}
theorem exnAt_some {a d n : Nat} {dd : D} {fs : List (Str × D)} (q : exnAt a d n dd = some fs) : fs.length = n ∧ ∃ c x y, dd = .ins c ((x, .int a) :: (y, .int d) :: fs) ∧ x = "" := by
  unfold exnAt at q
  split at q
  · split at q
    · rename_i h
      obtain ⟨rfl, rfl, rfl, h3⟩ := h
      cases q
      exact ⟨h3, _, _, _, rfl, rfl⟩
    · cases q
  · cases q
/-- it stands, its dict too -/
theorem held_at {pins : List (Addr × Obj)} {σ : L2.St} {H : Hp} {s : Shared} {fs : List (Str × D)} {S : Addr → Prop} {v : V} {m : Nat} {dd : D} {f : List Addr} (hp : p ∈ X.pn) (hl : ∃ vs, p.2.data = .fields vs) (hh : XHeld ct p d e) (I : Inv X pins σ H s) (r : Rp X.K S H m v dd f) (q : exnAt p.1 d e.fs.length dd = some fs) :
    v = .ref p.1 ∧ (∃ od, PySem.W.InstAt s.heap p.1 p.2 (ct e.cls) od) ∧ (fs = [] ∨ ∃ ws od, PySem.W.InstAt s.heap p.1 p.2 (ct e.cls) (some od) ∧ s.heap.get? d = some od ∧ H d = some (.xd ((fs.map (·.1)).zip ws)) ∧ RpAll X.K S H 0 ws (fs.map (·.2)) []) := by
  obtain ⟨dv, hz, hd⟩ := hh.zc
  obtain ⟨vs, hv⟩ := hl
  have P := (I.pin p (List.mem_append_left _ hp)).1
  have nc : PySem.W.notCls p.2 = true := by unfold PySem.W.notCls; rw [hv] <;> rfl
  obtain ⟨hlen, c, x, y, rfl, rfl⟩ := exnAt_some q
  cases r with
  | ob0 _ _ oo => simp [objD] at oo
  | ob1 _ oo => simp [objD] at oo
  | exn0 a d' c =>
    refine ⟨?_, ?_, .inl rfl⟩
    · rfl
    · rcases hd with ⟨_, z⟩ | ⟨z, _⟩
      · exact ⟨none, P, hz.1, nc, by rw [hz.2, z]; trivial⟩
      · exact absurd (List.length_eq_zero_iff.mp hlen.symm) z
  | exn1 h1 h2 h3 =>
    refine ⟨rfl, ?_⟩
    rcases hd with ⟨z, z2⟩ | ⟨z, z2⟩
    · refine ⟨⟨none, P, hz.1, nc, by rw [hz.2, z2]; trivial⟩, .inl ?_⟩
      rw [z] at hlen
      exact List.length_eq_zero_iff.mp hlen
    · have hx : ObjOk X.prog X.w H s.heap _ (.xd _) := I.hok _ _ h1
      obtain ⟨mA, hns, hr⟩ := hx
      obtain ⟨od, ho, hl⟩ := lookIn_ns hns
      have J : PySem.W.InstAt s.heap p.1 p.2 (ct e.cls) (some od) := ⟨P, hz.1, nc, by rw [hz.2, z2]; exact ho⟩
      exact ⟨⟨_, J⟩, .inr ⟨_, od, J, ho, h1, h3⟩⟩
theorem vok_rp {K : PySem.W.Frag} {S : Addr → Prop} {H : Hp} {x : VV} {v : V} {f : List Addr} (h : VOk K S H x v f) : ∃ g, Rp K S H x.m v x.d g := h.rp
def rIsE (K : PySem.W.Frag) (a d n : Nat) (c : V) (b : Bool) : List V → Hp → VK → Prop := fun xs H Q => ∃ v S m f dd fs, xs = [v, c] ∧ Rp K S H m v dd f ∧ exnAt a d n dd = some fs ∧ Q (.bl b) H
theorem call_isEV {cv : Value} {c : V} {b : Bool} (hp : p ∈ X.pn) (hl : ∃ vs, p.2.data = .fields vs) (hh : XHeld ct p d e) (T : XKn X.K (ct e.cls)) (hc : ∀ u, RelV c u → u = cv) (hk : PySem.W.kitOne X.K (.ref (ct e.cls)) cv = some b) : CallR X (.builtin "isinstance") (rIsE X.K p.1 d e.fs.length c b) := by
  intro pins s σ H xs us Q I r h
  obtain ⟨v, S, m, f, dd, fs, rfl, rp, q, hq⟩ := h
  obtain ⟨rfl, ⟨od, J⟩, _⟩ := held_at hp hl hh I rp q
  cases r with
  | cons rx rr =>
    cases rr with
    | cons rt rr =>
      cases rr
      cases rx
      have ec := hc _ rt
      subst ec
      exact PySem.W.kia_one (kitx_held T) I.kIn ⟨od, J⟩ hk (fun z => nomatch z) fun tk => ⟨.bl b, H, I.kept (t' := tk) fun _ _ z => z, rfl, hq⟩
theorem isE_op {K : PySem.W.Frag} {c : V} {b : Bool} : Op1 K (fun x H Q => rIsE K p.1 d e.fs.length c b [x, c] H Q) (kIsE p.1 d e b) := fun S H x v f z Q h ok h1 hQ => by
  unfold kIsE at h1
  cases q : exnAt p.1 d e.fs.length x.d with
  | none => rw [q] at h1; cases h1
  | some fs =>
    rw [q] at h1
    obtain rfl := Option.some.inj h1
    obtain ⟨g, r⟩ := h.rp
    exact ⟨v, S, _, _, _, fs, rfl, r, q, hQ _ _ S [] Grow.refl (by rw [VOk.own]; exact .bl _ _) ok.nil⟩
/-- isinstance(e, C) -/
theorem s_isE {C : Addr} {cn : Str} {a : Expr} {ga : M} {b : Bool} {p1 p2 pos : Pos} (hp : p ∈ X.pn) (hl : ∃ vs, p.2.data = .fields vs) (hh : XHeld ct p d e) (T : XKn X.K (ct e.cls)) (hg : Gl X "isinstance") (hm : X.mg "isinstance" = none) (hgc : Gl X cn) (hmc : X.mg cn = some (.ref C))
    (hk : PySem.W.kitOne X.K (.ref (ct e.cls)) (.ref C) = some b) (ha : SE ct X a ga) (hdb : (cn == ("__debug__" : Str)) = false := by decide)
    (he : starEach (a :: [.Name cn p2]) X.env = (false, eval a X.env) :: starEach [.Name cn p2] X.env := by rfl)
    (he2 : starEach [.Name cn p2] X.env = (false, eval (.Name cn p2) X.env) :: starEach [] X.env := by rfl)
    (hpl : (backTo pos (starEach [.Name cn p2] X.env)).any (·.1) = false := by rfl) : SE ct X (.Call (.Name "isinstance" p1) [a, .Name cn p2] [] pos) (one ga (kIsE p.1 d e b)) :=
  run_one (r := fun x H Q => rIsE X.K p.1 d e.fs.length (.ref C) b [x, .ref C] H Q) ha (fun pa => pe_callB (call_isEV hp hl hh T (c := .ref C) (cv := .ref C) (fun u r => r) hk) hg hm PyProof.Rows.boot_isinstance (pa_cons pa (pa_cons (pe_glob hgc hmc (v := .ref C) rfl hdb) pa_nil he2) he) (by decide) (by decide) he hpl) isE_op
/-- isinstance(e, T), T built-in -/
theorem s_isEB {cn : Str} {tn : String} {a : Expr} {ga : M} {b : Bool} {p1 p2 pos : Pos} (hp : p ∈ X.pn) (hl : ∃ vs, p.2.data = .fields vs) (hh : XHeld ct p d e) (T : XKn X.K (ct e.cls)) (hg : Gl X "isinstance") (hm : X.mg "isinstance" = none) (hgc : Gl X cn) (hmc : X.mg cn = none) (hv : bootBuiltins cn = some (.type tn)) (hn : cn ≠ "__name__")
    (hk : PySem.W.kitOne X.K (.ref (ct e.cls)) (.type tn) = some b) (ha : SE ct X a ga) (hdb : (cn == ("__debug__" : Str)) = false := by decide)
    (he : starEach (a :: [.Name cn p2]) X.env = (false, eval a X.env) :: starEach [.Name cn p2] X.env := by rfl)
    (he2 : starEach [.Name cn p2] X.env = (false, eval (.Name cn p2) X.env) :: starEach [] X.env := by rfl)
    (hpl : (backTo pos (starEach [.Name cn p2] X.env)).any (·.1) = false := by rfl) : SE ct X (.Call (.Name "isinstance" p1) [a, .Name cn p2] [] pos) (one ga (kIsE p.1 d e b)) :=
  run_one (r := fun x H Q => rIsE X.K p.1 d e.fs.length (.ty tn) b [x, .ty tn] H Q) ha (fun pa => pe_callB (call_isEV hp hl hh T (c := .ty tn) (cv := .type tn) (fun u r => r) hk) hg hm PyProof.Rows.boot_isinstance (pa_cons pa (pa_cons (pe_bltn hgc hmc hv (by rfl) hn hdb) pa_nil he2) he) (by decide) (by decide) he hpl) isE_op
/-- names of classes -/
def tAll (vs : List V) : TA := fun σ H Q => Q vs H
theorem pas_nil : PA X [] (tAll []) := pa_nil
theorem pas_cons {C : Addr} {cn : Str} {es : List Expr} {vs : List V} {p1 : Pos} (hgc : Gl X cn) (hmc : X.mg cn = some (.ref C)) (h : PA X es (tAll vs)) (hdb : (cn == ("__debug__" : Str)) = false := by decide)
    (he : starEach (.Name cn p1 :: es) X.env = (false, eval (.Name cn p1) X.env) :: starEach es X.env := by rfl) : PA X (.Name cn p1 :: es) (tAll (.ref C :: vs)) := pa_cons (pe_glob hgc hmc (v := .ref C) rfl hdb) h he
def rIsT0 (K : PySem.W.Frag) (a d n : Nat) (b : Bool) (vs : List V) : List V → Hp → VK → Prop := fun xs H Q => ∃ v q S m f dd fs, xs = [v, .ref q] ∧ H q = some (.tup vs) ∧ Rp K S H m v dd f ∧ exnAt a d n dd = some fs ∧ Q (.bl b) H
def rIsT (K : PySem.W.Frag) (a d n : Nat) (b : Bool) (vs : List V) : V → Hp → VK → Prop := fun x H Q => vs.length ≤ sizeLine ∧ ∀ q, H q = none → rIsT0 K a d n b vs [x, .ref q] (upd H q (.tup vs)) Q
theorem vals_refs : ∀ {Cs : List Addr} {us : List Value}, Vals (Cs.map V.ref) us → us = Cs.map Value.ref
  | [], _, .nil => rfl
  | C :: Cs, _, .cons (b := u) r rr => by
    rw [vals_refs rr]
    cases (show u = Value.ref C from r)
    rfl
theorem call_isT {Cs : List Addr} {b : Bool} (hp : p ∈ X.pn) (hl : ∃ vs, p.2.data = .fields vs) (hh : XHeld ct p d e) (T : XKn X.K (ct e.cls)) (hk : PySem.W.kitAny X.K (.ref (ct e.cls)) (Cs.map Value.ref) = some b) : CallR X (.builtin "isinstance") (rIsT0 X.K p.1 d e.fs.length b (Cs.map V.ref)) := by
  intro pins s σ H xs us Q I r h
  obtain ⟨v, q, S, m, f, dd, fs, rfl, hT, rp, hx, hq⟩ := h
  obtain ⟨rfl, ⟨od, J⟩, _⟩ := held_at hp hl hh I rp hx
  obtain ⟨u1, u2, rfl, r1, r2⟩ := vals2 r
  cases (show u2 = Value.ref q from r2)
  cases (show u1 = Value.ref p.1 from r1)
  obtain ⟨_, its, rv, o, h1, h2, n, h3⟩ := (show ObjOk X.prog X.w H s.heap q (.tup (Cs.map V.ref)) from I.hok q _ hT)
  have e3 := vals_refs rv
  subst e3
  obtain ⟨oc, od, dt, sl⟩ := o
  simp only at h2 h3
  subst h2 h3
  exact PySem.W.kia_tup (kitx_held T) I.kIn ⟨_, J⟩ h1 hk (fun z => nomatch z) fun tk => ⟨.bl b, H, I.tok tk, rfl, hq⟩
theorem isT_op {K : PySem.W.Frag} {b : Bool} {vs : List V} (hz : vs.length ≤ sizeLine) : Op1 K (rIsT K p.1 d e.fs.length b vs) (kIsE p.1 d e b) := fun S H x v f z Q h ok h1 hQ => by
  unfold kIsE at h1
  cases q : exnAt p.1 d e.fs.length x.d with
  | none => rw [q] at h1; cases h1
  | some fs =>
    rw [q] at h1
    obtain rfl := Option.some.inj h1
    refine ⟨hz, fun a ha => ?_⟩
    obtain ⟨g, r⟩ := (h.same (same_upd (o := HO.tup vs) ha)).rp
    exact ⟨v, a, S, _, _, _, fs, rfl, upd_same, r, q, hQ _ _ S [] (new_grow ok ha (fun _ z => z) (fun _ => .inl) (by simp)) (by rw [VOk.own]; exact .bl _ _) (new_ok ok.nil ha)⟩
/-- isinstance(e, (C, D, ..)) -/
theorem s_isT {Cs : List Addr} {es : List Expr} {a : Expr} {ga : M} {b : Bool} {kk : Nat} {p1 tpos pos : Pos} (hp : p ∈ X.pn) (hl : ∃ vs, p.2.data = .fields vs) (hh : XHeld ct p d e) (T : XKn X.K (ct e.cls)) (hg : Gl X "isinstance") (hm : X.mg "isinstance" = none) (hes : PA X es (tAll (Cs.map V.ref)))
    (hk : PySem.W.kitAny X.K (.ref (ct e.cls)) (Cs.map Value.ref) = some b) (hz : Cs.length ≤ 1000) (ha : SE ct X a ga)
    (he : starEach (a :: [.Tuple es kk tpos]) X.env = (false, eval a X.env) :: starEach [.Tuple es kk tpos] X.env := by rfl)
    (he2 : starEach [.Tuple es kk tpos] X.env = (false, eval (.Tuple es kk tpos) X.env) :: starEach [] X.env := by rfl)
    (hpl : (backTo pos (starEach [.Tuple es kk tpos] X.env)).any (·.1) = false := by rfl) : SE ct X (.Call (.Name "isinstance" p1) [a, .Tuple es kk tpos] [] pos) (one ga (kIsE p.1 d e b)) :=
  run_one (r := rIsT X.K p.1 d e.fs.length b (Cs.map V.ref)) ha (fun pa => pe_callB (call_isT hp hl hh T hk) hg hm PyProof.Rows.boot_isinstance (pa_cons pa (pa_cons (pe_tup hes) pa_nil he2) he) (by decide) (by decide) he hpl) (isT_op (by rw [List.length_map, sizeLine_eq]; omega))
theorem kitAny_all {K : PySem.W.Frag} {c : Str} : ∀ {Cs : List Str} {as : List Addr}, Paired (fun (C : Str) (a : Addr) => PySem.W.kitOne K (.ref (ct c)) (.ref a) = some (subE c C)) Cs as → PySem.W.kitAny K (.ref (ct c)) (as.map Value.ref) = some (subEs c Cs)
  | _, _, .nil => rfl
  | _, _, .cons (a := C) h r => by
    refine kitAny_cons h (fun hb => ?_) fun hb => ?_
    · rw [kitAny_all r]
      unfold subEs
      rw [List.any_cons, hb, Bool.false_or]
    · unfold subEs
      rw [List.any_cons, hb, Bool.true_or]
/-- e.f -/
def tFldE (a d n : Nat) (fld : Str) (te : TE) : TE := fun σ H Q => te σ H fun v H1 => ∃ S m f dd fs, Rp X.K S H1 m v dd f ∧ exnAt a d n dd = some fs ∧ fs ≠ [] ∧ ∀ ws, H1 d = some (.xd ((fs.map (·.1)).zip ws)) → RpAll X.K S H1 0 ws (fs.map (·.2)) [] → ∃ u, ((fs.map (·.1)).zip ws).lookup fld = some u ∧ Q u H1
theorem pe_fldE {a : Expr} {fld : Str} {te : TE} {pos : Pos} (hp : p ∈ X.pn) (hl : ∃ vs, p.2.data = .fields vs) (hh : XHeld ct p d e) (T : XKn X.K (ct e.cls)) (hno : PySem.W.findIn X.K (.ref (ct e.cls)) fld = some none) (he : PE X a te) (hb : attributeBase a fld X.env (eval a X.env) = eval a X.env := by rfl) :
    PE X (.Attribute a fld pos) (tFldE (X := X) p.1 d e.fs.length fld te) := by
  refine ⟨fun pins s σ H Q I h => ?_⟩
  refine attr_of hb (L2.thn (he.run pins s σ H _ I h) fun u s1 hu => ?_)
  obtain ⟨v, H1, I1, rx, S, m, f, dd, fs, rp, q, hne, hq⟩ := hu
  obtain ⟨rfl, _, z | ⟨ws, od, J, ho, hx, hws⟩⟩ := held_at hp hl hh I1 rp q
  · exact absurd z hne
  · obtain rfl : u = Value.ref p.1 := rx
    obtain ⟨w, hlw, hQ⟩ := hq ws hx hws
    have hxd : ObjOk X.prog X.w H1 s1.heap d (.xd _) := I1.hok d _ hx
    obtain ⟨mA, hns, hr⟩ := hxd
    obtain ⟨od', ho', hlk⟩ := lookIn_ns hns
    rw [ho] at ho'
    cases ho'
    obtain ⟨uu, hu, ru⟩ := RelO.some_of (v := w) (o := mA fld) (by rw [← hlw]; exact hr fld)
    exact HandSPX.exc_get I1.kIn J T.ga T.gg T.be (PySem.W.findObj_own T.hd hno rfl (by rw [hlk, hu])) (handed_of ru) ⟨w, H1, I1.tok _, ru, hQ⟩
theorem RpAll.tail0 {K : PySem.W.Frag} {S : Addr → Prop} {H : Hp} {w : V} {ws : List V} {x : D} {ds : List D} {f : List Addr} (r : RpAll K S H 0 (w :: ws) (x :: ds) f) : RpAll K S H 0 ws ds [] := by
  cases r with
  | cons _ z =>
    have e := z.own0
    subst e
    exact z
theorem lookup_zip {fld : Str} {y : D} {K : PySem.W.Frag} {S : Addr → Prop} {H : Hp} : ∀ {fs : List (Str × D)} {ws : List V}, RpAll K S H 0 ws (fs.map (·.2)) [] → fs.lookup fld = some y → ∃ u, ((fs.map (·.1)).zip ws).lookup fld = some u ∧ Rp K S H 0 u y []
  | [], _, _, h => by cases h
  | (n, x) :: fs, ws, r, h => by
    cases ws with
    | nil => cases r
    | cons w ws =>
      obtain ⟨u0, e0, r0⟩ := r.get0 (i := 0) (e := x) rfl
      obtain rfl : w = u0 := by simpa using e0
      rw [List.lookup_cons] at h
      cases hb : (fld == n) with
      | true =>
        rw [hb] at h
        obtain rfl := Option.some.inj h
        exact ⟨w, by simp [List.lookup_cons, hb], r0⟩
      | false =>
        rw [hb] at h
        have r' : RpAll K S H 0 ws (fs.map (·.2)) [] := r.tail0
        obtain ⟨u, e1, e2⟩ := lookup_zip r' h
        exact ⟨u, by simp [List.lookup_cons, hb, e1], e2⟩
theorem s_fldE {a : Expr} {ga : M} {fld : Str} {pos : Pos} (hp : p ∈ X.pn) (hl : ∃ vs, p.2.data = .fields vs) (hh : XHeld ct p d e) (T : XKn X.K (ct e.cls)) (hno : PySem.W.findIn X.K (.ref (ct e.cls)) fld = some none) (ha : SE ct X a ga) (hb : attributeBase a fld X.env (eval a X.env) = eval a X.env := by rfl) :
    SE ct X (.Attribute a fld pos) (one ga (kFldE p.1 d e fld)) := by
  refine run_one (r := fun v H1 Q => ∃ S m f dd fs, Rp X.K S H1 m v dd f ∧ exnAt p.1 d e.fs.length dd = some fs ∧ fs ≠ [] ∧ ∀ ws, H1 d = some (.xd ((fs.map (·.1)).zip ws)) → RpAll X.K S H1 0 ws (fs.map (·.2)) [] → ∃ u, ((fs.map (·.1)).zip ws).lookup fld = some u ∧ Q u H1) ha (fun pa => pe_fldE hp hl hh T hno pa hb) fun S H x v f z Q h ok h1 hQ => ?_
  unfold kFldE at h1
  cases q : exnAt p.1 d e.fs.length x.d with
  | none => rw [q] at h1; cases h1
  | some fs =>
    rw [q] at h1
    have h1 : (fs.lookup fld).map (fun y => (⟨false, 0, y⟩ : VV)) = some z := h1
    cases q2 : fs.lookup fld with
    | none => rw [q2] at h1; cases h1
    | some y =>
      rw [q2] at h1
      obtain rfl := Option.some.inj h1
      obtain ⟨g, r⟩ := h.rp
      have hne : fs ≠ [] := fun y => by rw [y] at q2; cases q2
      refine ⟨S, _, _, _, fs, r, q, hne, fun ws hx hws => ?_⟩
      obtain ⟨u, e1, e2⟩ := lookup_zip hws q2
      exact ⟨u, e1, hQ _ _ S [] Grow.refl (by rw [VOk.own]; exact e2) ok.nil⟩
end
/-! ### a def that is called on the exception that is handled -/
/-- .. it does what m says of the exception at hand; kn: the classes that may come -/
structure FnX (P : Program) (w : World) (K : PySem.W.Frag) (mg : Str → Option Value) (base : Heap) (ct : Str → Addr) (kn : List Str) (k : Nat) (f : Addr) (fd : FuncData) (ps : List Str) (m : Nat → Nat → Ex → List PV → RF) : Prop where
  run : ∀ (A : Around) (outer : List PySem.Env) (s : Shared) (H : Hp) (args : Args) (us : List Value) (vs : List V) (Q : VK) (E : XK) (p : Addr × Obj) (d : Addr) (e : Ex), A.guards = some [] → L2H.RoomH k A → L2H.Hot1 A p → L2H.PinOk outer H s p → XHeld ct p d e → e.cls ∈ kn → Env0 P w K mg base A outer s H →
    BindsTo s fd args (ps.zip us) → Vals vs us → SpF K ct ps.length (m p.1 d e) vs H Q E → codeAny (model P w) A (.call (.ref f) args) (CR (L2N.CX P w) outer P w H s Q E) s
abbrev bodyH (P : Program) (w : World) (K : PySem.W.Frag) (mg : Str → Option Value) (base : Heap) (N : List Str) (qual : Str) (st : Stmt) (f : Addr) (cdv : Value) (A : Around) (outer : List PySem.Env) (s : Shared) (H : Hp) (E : XK) (p : Addr × Obj) : Cx :=
  L2H.cxH (L2N.CX P w) P w K mg base N qual (defScope st) f cdv A outer s H E p
section
variable {P : Program} {w : World} {K : PySem.W.Frag} {mg : Str → Option Value} {base : Heap} {ct : Str → Addr} {kn : List Str}
theorem fnx_of {dvs : List V} {kws : List (Str × V)} {x qual : Str} {st : Stmt} {f : Addr} {fd : FuncData} {N ps : List Str} {k : Nat} {lent : List Bool} {g : Nat → Nat → Ex → MS} (F : FunD K x qual (defArgs st) (defBody st) (defScope st) dvs kws f fd) (Sc : FnScope N ps (defScope st)) (hn : ps.length ≤ N.length) (hl : lent.length = ps.length)
    (hbody : ∀ (cdv : Value) (A : Around) (outer : List PySem.Env) (s : Shared) (H : Hp) (E : XK) (p : Addr × Obj) (d : Addr) (e : Ex), L2H.RoomH k (bodyH P w K mg base N qual st f cdv A outer s H E p).A → (bodyH P w K mg base N qual st f cdv A outer s H E p).A.guards = some [] → p ∈ (bodyH P w K mg base N qual st f cdv A outer s H E p).pn →
      L2H.Hot1 (bodyH P w K mg base N qual st f cdv A outer s H E p).A p → (∃ vs, p.2.data = .fields vs) → XHeld ct p d e → e.cls ∈ kn → SSs ct lent (bodyH P w K mg base N qual st f cdv A outer s H E p) (defBody st) (g p.1 d e)) : FnX P w K mg base ct kn (k + 1) f fd ps (fun a d e => fnM N.length lent (g a d e)) := by
  obtain ⟨oc, od, dV, kV, doc, pm, an, cdv, cv, osl, rfl, lk, hcd, _, _⟩ := F.ex
  refine ⟨fun A outer s H args us vs Q E p d e hgd hr hot hpin hh hk e0 hb r hsp => ?_⟩
  have hlen : vs.length = ps.length := by
    obtain ⟨_, _, _, _, _, z, _⟩ := hsp
    exact z
  have inn : K.In s.heap := e0.mod.kin.keeps fun b o e => (e0.bs b o e).1
  have lim : s.heap.NoLimit := e0.mod.nolimit.keeps fun b o e => (e0.bs b o e).1
  refine codeAny_call_function hr.depth (inn _ _ lk) rfl Sc.co Sc.gen rfl (PySem.W.codeRec_of inn hcd) (hb _ _ _ _ ?_)
  refine wpAny_newFunctionEnv_cells Sc.kind (fun ⟨n, u⟩ hm => ?_) fun env henv s1 made => ?_
  · rcases Sc.par n (List.of_mem_zip hm).1 with z | z
    · exact .inl z
    · exact .inr ⟨z, PySem.W.cellsFrom_some _ _ _ (.inl z)⟩
  · subst henv
    refine ⟨lim.keeps made.toInCall.keep, codeAny_func ?_⟩
    have I : Inv (bodyH P w K mg base N qual st f cdv A outer s H E p) [] (L2.start N vs) H s1 := L2H.inv_startH Sc hpin e0 hlen r made
    obtain ⟨t, ht, run⟩ := (hbody cdv A outer s H E p d e (hr.deeper _) hgd (List.mem_singleton.mpr rfl) hot (let ⟨_, vs, h, _⟩ := hot; ⟨vs, h⟩) hh hk).run (fun cls d _ H => E cls d H) (L2N.takes_of rfl rfl rfl rfl) (passes_of rfl)
    refine wpAny_mono (ht.run [] s1 (L2.start N vs) H _ I (body_ends hn hl run hsp)) (fun fl s2 hs => ?_) fun _ _ z => z
    have ends : ∀ {σ' : L2.St} {H' : Hp} {v : V} {u : Value}, Inv (bodyH P w K mg base N qual st f cdv A outer s H E p) [] σ' H' s2 → RelV v u → Q v H' → CE outer P w H s Q u s2 :=
      fun {σ' H' v u} J rv q => ⟨v, H', J.os, J.bare, J.base, J.hok, rv, q⟩
    cases fl with
    | ret u =>
      obtain ⟨v, σ', H', J, rv, q⟩ := hs
      exact ends J rv q
    | next =>
      obtain ⟨σ', H', J, q⟩ := hs
      exact ends (v := .non) (u := .none) J rfl q
    | brk =>
      obtain ⟨_, _, _, q⟩ := hs
      exact q.elim
    | cont =>
      obtain ⟨_, _, _, q⟩ := hs
      exact q.elim
end
section
variable {ct : Str → Addr} {X : Cx} {p : Addr × Obj} {d : Addr} {e : Ex} {kn : List Str} {k : Nat} {f : Addr} {fd : FuncData} {ps : List Str} {m : Nat → Nat → Ex → List PV → RF} {as : List AK}
/-- its call, in the suite -/
theorem s_callX {x : Str} {q pos : Pos} {ex : Expr} {es : List Expr} (F : FnX X.prog X.w X.K X.mg X.base ct kn k f fd ps m) (hgd : X.A.guards = some []) (hr : L2H.RoomH k X.A) (hot : L2H.Hot1 X.A p) (hp : p ∈ X.pn) (hh : XHeld ct p d e) (hkn : e.cls ∈ kn) (hg : Gl X x) (hm : X.mg x = some (.ref f)) (hk : PySem.W.keepIn X.K (.ref f) = true) {ds : List Value} (hb' : L2.Binds X.K fd ps ds) (hdv : Vals ([] : List V) ds)
    (ha : SC ct X (ex :: es) (cargs as)) (hn : as.length = ps.length) (hdb : (x == ("__debug__" : Str)) = false := by decide) (he : starEach (ex :: es) X.env = (false, eval ex X.env) :: starEach es X.env := by rfl) (hpl : (backTo pos (starEach es X.env)).any (·.1) = false := by rfl) :
    SE ct X (.Call (.Name x q) (ex :: es) [] pos) (call (m p.1 d e) [] as) := by
  have hb : L2.Binds X.K fd ps [] := by
    cases hdv
    exact hb'
  refine ⟨fun W tk => ?_⟩
  obtain ⟨t, pa, r⟩ := ha.run W tk
  refine ⟨fun σ H Q => t σ H fun vs H1 => SpF X.K ct ps.length (m p.1 d e) (vs ++ []) H1 Q fun C d H' => W C d σ H', ⟨fun pins s σ H Q I h => ?_⟩, fun S F H σ ρ Q E ok G => run_call (x := .non) (dvs := []) (df := []) .nil (by simpa using hn) r E ok G⟩
  refine wpAny_Call_Name_kw (ld_glob I hg hm ?_ hdb)
  refine PySem.W.callWith_K (h₀ := X.base) I.ok.mod.kin hk (L2.thn (pa.run pos pins s σ H _ I h) fun us s1 ⟨vs, H1, I1, rv, q⟩ => ⟨I1.kIn, ?_⟩) he hpl
  have q : SpF X.K ct ps.length (m p.1 d e) vs H1 Q (fun C d H' => W C d σ H') := by
    have q' := q
    simp only [List.append_nil] at q'
    exact q'
  have hl : us.length = ps.length := by
    obtain ⟨_, _, _, _, _, z, _⟩ := q
    rw [← rv.length, z]
  have P1 := I1.pin p (List.mem_append_left _ hp)
  have hpin : L2H.PinOk X.stack H1 s1 p := ⟨P1.1, P1.2.1, fun hm => (List.mem_cons.mp (I1.stkSub p.1 hm)).elim P1.2.2.1 P1.2.2.2.1, P1.2.2.2.2⟩
  have b := hb s1 us I1.kIn (by rw [List.append_nil]; exact hl)
  rw [List.append_nil] at b
  refine wpAny_call (codeAny_mono (F.run X.A X.stack s1 H1 ⟨us, []⟩ us vs Q _ p d e hgd hr hot hpin hh hkn I1.env0 b rv q) fun rr s' hq => ?_)
  cases rr with
  | error er => exact L2N.passAt tk σ pins H1 s1 er s' I1 hq
  | ok fl =>
    cases fl with
    | ret u => exact I1.after hq
    | next => exact False.elim hq
    | brk => exact False.elim hq
    | cont => exact False.elim hq
end
/-! ### try -/
section
variable {ct : Str → Addr} {lent : List Bool} {X : Cx} {kn : List Str}
theorem EnvRp.shut {K : PySem.W.Frag} {S : Addr → Prop} {H : Hp} {σ : L2.St} {ρ : Vs.Env} {F : List Addr} (i : Nat) (E : EnvRp K S H σ ρ F) (ok : Ok S H F) : ∃ F', (∀ b ∈ F', b ∈ F) ∧ EnvRp K S H (σ.set i none) (Vs.put ρ i none) F' ∧ Ok S H F' := by
  obtain ⟨f, G, p, E'⟩ := E.drop i
  refine ⟨G, fun b hb => p.mem_iff.mpr (List.mem_append_right _ hb), E'.other (by rw [List.length_set]) fun j hj => ?_, (ok.perm p).tail⟩
  refine List.getElem?_set_ne fun z => hj ?_
  rw [← z, look_put_none]
theorem ss_try {i : Nat} {n cn : Str} {c : Value} {body suite : List Stmt} {b₀ : Stmt} {gb : MS} {gs : Nat → Nat → Ex → MS} {np pos pos' : Pos} (hs : X.stack = X.env :: X.outer) (hf : X.env.frame = some X.env.locals) (hN : X.N.Nodup) (hi : X.N[i]? = some n) (hln : X.env.kindOf n = some .local) (hc : Names X cn c) (hli : lent[i]? ≠ some true)
    (hex : ∀ c' ∈ kn, PySem.W.exmOne X.K (.ref (ct c')) c = some true)
    (hb : ∀ (pn : List (Addr × Obj)) (xe : Value → Shared → Prop), SSs ct lent (X.tr pn xe) body gb)
    (hsu : ∀ (p : Addr × Obj) (pn : List (Addr × Obj)) (d : Addr) (e : Ex), p ∈ (X.suite p.1 (p :: pn)).pn → L2H.Hot1 (X.suite p.1 (p :: pn)).A p → (∃ vs, p.2.data = .fields vs) → XHeld ct p d e → e.cls ∈ kn → SSs ct lent (X.suite p.1 (p :: pn)) (b₀ :: suite) (gs p.1 d e)) :
    SS ct lent X (.Try body [.ExceptHandler (some (.Name cn np)) (some n) (b₀ :: suite) pos'] [] [] pos) (tryM i kn gb gs) := by
  refine ⟨fun W tk po => ⟨_, L2N.ps_try_as (Wout := W) (tb := fun W' D σ H => ∃ S F ρ, EnvRp X.K S H σ ρ F ∧ Ok S H F ∧ GoodS X.K ct lent W' D S F H σ (gb ρ))
    (ts := fun a cls dv D σ H => ∃ S F ρ d e, cls = .ref (ct e.cls) ∧ ((e.fs = [] ∧ dv = none) ∨ (e.fs ≠ [] ∧ dv = some d)) ∧ e.cls ∈ kn ∧ EnvRp X.K S H σ ρ F ∧ Ok S H F ∧ GoodS X.K ct lent (fun _ _ _ _ => False) D S F H σ (gs a d e ρ))
    hs hf hN hi hln hc tk (fun W' pn xe tk' po' => ⟨fun pins s σ H D I ⟨S, F, ρ, E, ok, G⟩ => ?_⟩) (fun a oe cls dv pn hz hv => ⟨fun pins s σ H D I ⟨S, F, ρ, d, e, hcl, hd, hkn, E, ok, G⟩ => ?_⟩), fun S F H σ ρ D E ok G => ?_⟩⟩
  · obtain ⟨t, p, r⟩ := (hb pn xe).run W' tk' po'
    exact p.run pins s σ H D I (r S F H σ ρ D E ok G)
  · obtain ⟨vs, hv'⟩ := hv
    obtain ⟨t, p, r⟩ := (hsu (a, oe) pn d e (List.mem_cons_self ..) ⟨rfl, vs, hv', hz.2.2 vs hv'⟩ ⟨vs, hv'⟩ ⟨dv, ⟨hcl ▸ hz.1, hz.2.1⟩, hd⟩ hkn).run (fun _ _ _ _ => False) takes0 PassesOwn.never
    exact p.run pins s σ H D I (r S F H σ ρ D E ok G)
  · refine ⟨S, F, ρ, E, ok, ?_⟩
    unfold tryM at G
    cases q : gb ρ with
    | nx ρ1 => rw [q] at G; exact G
    | brk ρ1 => rw [q] at G; exact G
    | ct ρ1 => rw [q] at G; exact G
    | ret v ρ1 => rw [q] at G; exact G
    | no => rw [q] at G; exact G
    | ex e ρ1 =>
      rw [q] at G
      replace G : GoodS X.K ct lent W D S F H σ (if e.cls ∈ kn then settle i fun a d => gs a d e (Vs.put ρ1 i (some (0, exnD a d e))) else .no) := G
      by_cases hkn : e.cls ∈ kn
      · rw [if_pos hkn] at G
        intro C dv σ1 S1 F1 H1 st E1 ok1 kp hx
        refine ⟨true, by rw [hx.1]; exact hex _ hkn, fun _ a ha => ?_, fun z => by cases z⟩
        have hd : ∃ d : Addr, ((e.fs = [] ∧ dv = none) ∨ (e.fs ≠ [] ∧ dv = some d)) ∧ Rp X.K S1 H1 0 (.ref a) (exnD a d e) [] := by
          rcases hx.2 with ⟨z1, z2⟩ | ⟨dx, ws, z1, z2, z3, z4, z5⟩
          · refine ⟨0, .inl ⟨z1, z2⟩, ?_⟩
            unfold exnD
            rw [z1]
            exact .exn0 0 a 0 _
          · exact ⟨dx, .inr ⟨z1, z2⟩, .exn1 z4 z3 z5⟩
        obtain ⟨d, hd, rp⟩ := hd
        have G2 : GoodS X.K ct lent W D S F H σ (Vs.shut i (gs a d e (Vs.put ρ1 i (some (0, exnD a d e))))) := by
          unfold settle at G
          split at G
          · rename_i hall
            rw [hall a d]
            exact G
          · exact G.elim
        clear G
        have slots : ∃ F2, (∀ b ∈ F2, b ∈ F1) ∧ EnvRp X.K S1 H1 (σ1.set i (some (.ref a))) (Vs.put ρ1 i (some (0, exnD a d e))) F2 ∧ Ok S1 H1 F2 := by
          by_cases hl2 : i < σ1.length
          · obtain ⟨f0, G0, p, E0⟩ := E1.drop i
            exact ⟨[] ++ G0, fun b hb => p.mem_iff.mpr (List.mem_append_right _ hb), E0.fill hl2 rp, (ok1.perm p).tail⟩
          · rw [List.set_eq_of_length_le (by omega), put_over _ _ _ (by rw [← E1.len]; omega)]
            exact ⟨F1, fun b hb => hb, E1, ok1⟩
        obtain ⟨F2, s2, E2, ok2⟩ := slots
        refine ⟨S1, F2, _, d, e, hx.1, hd, hkn, E2, ok2, ?_⟩
        have st2 := st.less s2
        have kp2 : Kp lent σ (σ1.set i (some (.ref a))) := kp.trans (Kp.set hli)
        cases q2 : gs a d e (Vs.put ρ1 i (some (0, exnD a d e))) with
        | nx ρ3 =>
          rw [q2] at G2
          intro σ3 S3 F3 H3 st3 E3 ok3 kp3
          obtain ⟨F4, s4, E4, ok4⟩ := E3.shut i ok3
          exact G2 _ S3 F4 H3 ((st2.trans st3).less s4) E4 ok4 ((kp2.trans kp3).trans (Kp.set hli))
        | brk ρ3 =>
          rw [q2] at G2
          intro σ3 S3 F3 H3 st3 E3 ok3 kp3
          obtain ⟨F4, s4, E4, ok4⟩ := E3.shut i ok3
          exact G2 _ S3 F4 H3 ((st2.trans st3).less s4) E4 ok4 ((kp2.trans kp3).trans (Kp.set hli))
        | ct ρ3 =>
          rw [q2] at G2
          intro σ3 S3 F3 H3 st3 E3 ok3 kp3
          obtain ⟨F4, s4, E4, ok4⟩ := E3.shut i ok3
          exact G2 _ S3 F4 H3 ((st2.trans st3).less s4) E4 ok4 ((kp2.trans kp3).trans (Kp.set hli))
        | ret pv ρ3 =>
          rw [q2] at G2
          intro v f σ3 S3 F3 H3 st3 hr E3 ok3 kp3
          obtain ⟨F4, s4, E4, ok4⟩ := E3.shut i ok3.tail
          refine G2 v f (σ3.set i none) S3 F4 H3 ((st2.trans st3).less fun b hb => ?_) hr E4 (ok3.head.two ok4 fun b hb z => ok3.apart b hb (s4 b z)) ((kp2.trans kp3).trans (Kp.set hli))
          exact (List.mem_append.mp hb).elim (fun z => List.mem_append_left _ z) fun z => List.mem_append_right _ (s4 b z)
        | ex e3 ρ3 => rw [q2] at G2; exact G2.elim
        | no => rw [q2] at G2; exact G2.elim
      · rw [if_neg hkn] at G
        exact G.elim
end
end Vs
set_option maxHeartbeats 4000000
/-! exceptions: what the written part says of the classes; comparisons where an exception is handled. -/
namespace Vs
open PySem PySem.Spec PyProof.Rows L2
section
variable {ct : Str → Addr} {X : Cx} {a b : Expr} {ga gb : M} {pos : Pos}
theorem unitsH {A : Around} {k : Nat} (hr : L2H.RoomH k A) : A.units + 65 < cLine := by
  have := hr.un
  omega
theorem s_eqH {k : Nat} (hr : L2H.RoomH k X.A) (ha : SE ct X a ga) (hb : SE ct X b gb) : SE ct X (.Compare a [.Eq] [b] pos) (two ga gb kEq) := s_cmp (op_eqS (unitsH hr)) kEq_op (nomark _) ha hb
theorem s_neH {k : Nat} (hr : L2H.RoomH k X.A) (ha : SE ct X a ga) (hb : SE ct X b gb) : SE ct X (.Compare a [.NotEq] [b] pos) (two ga gb kNe) := s_cmp (op_neS (unitsH hr)) kNe_op (nomark _) ha hb
theorem s_inH {k : Nat} (hr : L2H.RoomH k X.A) (ha : SE ct X a ga) (hb : SE ct X b gb) (hm : behindInMarks .In b = false := by with_unfolding_all rfl) : SE ct X (.Compare a [.In] [b] pos) (two ga gb kIn) := s_cmp (op_in2 (unitsH hr)) kIn_op hm ha hb
theorem t_eqH {k : Nat} (hr : L2H.RoomH k X.A) (ha : SE ct X a ga) (hb : SE ct X b gb) : ST ct X (.Compare a [.Eq] [b] pos) (tst (two ga gb kEq) blOf) := t_cmp (op_eqS (unitsH hr)) kEq_op (nomark _) ha hb
theorem t_neH {k : Nat} (hr : L2H.RoomH k X.A) (ha : SE ct X a ga) (hb : SE ct X b gb) : ST ct X (.Compare a [.NotEq] [b] pos) (tst (two ga gb kNe) blOf) := t_cmp (op_neS (unitsH hr)) kNe_op (nomark _) ha hb
theorem t_inH {k : Nat} (hr : L2H.RoomH k X.A) (ha : SE ct X a ga) (hb : SE ct X b gb) (hm : behindInMarks .In b = false := by with_unfolding_all rfl) : ST ct X (.Compare a [.In] [b] pos) (tst (two ga gb kIn) blOf) := t_cmp (op_in2 (unitsH hr)) kIn_op hm ha hb
end
/-- the classes: kn come, ask are asked for or named in a clause, flds are read -/
def xallB (K : PySem.W.Frag) (kn ask : List (Str × Addr)) (cls : List Addr) (flds : List Str) : Bool := kn.all fun p => xkB K p.2 && (ask.all (fun q => decide (PySem.W.kitOne K (.ref p.2) (.ref q.2) = some (subE p.1 q.1))) && (decide (PySem.W.kitOne K (.ref p.2) (.type "ValueError") = some true) &&
  (flds.all (fun f => decide (PySem.W.findIn K (.ref p.2) f = some none)) && cls.all (fun C => decide (PySem.W.exmOne K (.ref p.2) (.ref C) = some true)))))
structure XT (K : PySem.W.Frag) (mg : Str → Option Value) (ct : Str → Addr) (kn ask cls flds : List Str) : Prop where
  known : ∀ c ∈ kn, XKn K (ct c)
  isi : ∀ c ∈ kn, ∀ C ∈ ask, PySem.W.kitOne K (.ref (ct c)) (.ref (ct C)) = some (subE c C)
  vei : ∀ c ∈ kn, PySem.W.kitOne K (.ref (ct c)) (.type "ValueError") = some true
  nof : ∀ c ∈ kn, ∀ f ∈ flds, PySem.W.findIn K (.ref (ct c)) f = some none
  exm : ∀ c ∈ kn, ∀ C ∈ cls, PySem.W.exmOne K (.ref (ct c)) (.ref (ct C)) = some true
  mga : ∀ C ∈ ask, mg C = some (.ref (ct C))
  mgc : ∀ C ∈ cls, mg C = some (.ref (ct C))
  sup : mg "super" = none
theorem xt_mk {K : PySem.W.Frag} {mg : Str → Option Value} {ct : Str → Addr} {kn ask cls : List (Str × Addr)} {flds : List Str} (h : xallB K kn ask (cls.map (·.2)) flds = true) (hk : ∀ p ∈ kn, ct p.1 = p.2) (ha : ∀ p ∈ ask, ct p.1 = p.2 ∧ mg p.1 = some (.ref p.2)) (hc : ∀ p ∈ cls, ct p.1 = p.2 ∧ mg p.1 = some (.ref p.2)) (hs : mg "super" = none) :
    XT K mg ct (kn.map (·.1)) (ask.map (·.1)) (cls.map (·.1)) flds := by
  unfold xallB at h
  rw [List.all_eq_true] at h
  have key : ∀ p ∈ kn, xkB K p.2 = true ∧ (∀ q ∈ ask, PySem.W.kitOne K (.ref p.2) (.ref q.2) = some (subE p.1 q.1)) ∧ PySem.W.kitOne K (.ref p.2) (.type "ValueError") = some true ∧ (∀ f ∈ flds, PySem.W.findIn K (.ref p.2) f = some none) ∧ (∀ C ∈ cls.map (·.2), PySem.W.exmOne K (.ref p.2) (.ref C) = some true) := by
    intro p hp
    have := h p hp
    simp only [Bool.and_eq_true, List.all_eq_true, decide_eq_true_eq] at this
    exact this
  refine ⟨fun c hc => ?_, fun c hc C hC => ?_, fun c hc => ?_, fun c hc f hf => ?_, fun c hcc C hC => ?_, fun C hC => ?_, fun C hC => ?_, hs⟩
  · obtain ⟨p, hp, rfl⟩ := List.mem_map.mp hc
    rw [hk p hp]
    exact xkB_ok (key p hp).1
  · obtain ⟨p, hp, rfl⟩ := List.mem_map.mp hc
    obtain ⟨q, hq, rfl⟩ := List.mem_map.mp hC
    rw [hk p hp, (ha q hq).1]
    exact (key p hp).2.1 q hq
  · obtain ⟨p, hp, rfl⟩ := List.mem_map.mp hc
    rw [hk p hp]
    exact (key p hp).2.2.1
  · obtain ⟨p, hp, rfl⟩ := List.mem_map.mp hc
    rw [hk p hp]
    exact (key p hp).2.2.2.1 f hf
  · obtain ⟨p, hp, rfl⟩ := List.mem_map.mp hcc
    obtain ⟨q, hq, rfl⟩ := List.mem_map.mp hC
    rw [hk p hp, (hc q hq).1]
    exact (key p hp).2.2.2.2 _ (List.mem_map_of_mem hq)
  · obtain ⟨q, hq, rfl⟩ := List.mem_map.mp hC
    rw [(ha q hq).1]
    exact (ha q hq).2
  · obtain ⟨q, hq, rfl⟩ := List.mem_map.mp hC
    rw [(hc q hq).1]
    exact (hc q hq).2
/-- a class without a field of its own -/
structure XTx (K : PySem.W.Frag) (C : Addr) : Prop where
  ex : PySem.W.excIn K C [.type "ValueError", .type "Exception", .type "BaseException", .type "object"] "ValueError.__new__" = true
  kp : PySem.W.keepIn K (.ref C) = true
  be : PySem.W.subIn K (.ref C) (.type "BaseException") = some true
  ty : PySem.W.typeIn K (.ref C) = some (.type "type")
theorem XTx.raises {X : Cx} {C : Addr} (T : XTx X.K C) : Raises X (.ref C) := raises_own T.be T.ty
theorem ss_raiT {ct : Str → Addr} {lent : List Bool} {X : Cx} {c m : Str} {j : Nat} {p p2 pos pos2 : Pos} (hc : X.calm = true) (T : XTx X.K (ct c)) (gC : X.mg c = some (.ref (ct c))) (hg : Gl X c)
    (hdb : (c == ("__debug__" : Str)) = false := by decide) : SS ct lent X (.Raise (some (.Call (.Name c p) [.Constant (.str m) j p2] [] pos)) none pos2) (rai0 c) := ss_rai0 hc rfl T.ex gC T.kp T.raises hg hdb
theorem ss_raiF {ct : Str → Addr} {lent : List Bool} {X : Cx} {c fld : Str} {a : Expr} {ga : M} {p pos pos2 : Pos} {k : Nat} (hc : X.calm = true) (T : ∃ fI, XCls X.prog X.K (ct c) fI fld) (hr : Room k X.A) (gC : X.mg c = some (.ref (ct c))) (hsup : X.mg "super" = none) (hg : Gl X c) (ha : SE ct X a ga)
    (hdb : (c == ("__debug__" : Str)) = false := by decide) (he : starEach (a :: []) X.env = (false, eval a X.env) :: starEach [] X.env := by rfl) (hpl : (backTo pos (starEach [] X.env)).any (·.1) = false := by rfl) :
    SS ct lent X (.Raise (some (.Call (.Name c p) [a] [] pos)) none pos2) (rai1 c fld ga) :=
  let ⟨_, T⟩ := T
  ss_rai1 hc rfl T hr gC hsup hg ha hdb he hpl
/-- the first def of a class's text -/
def clsFn : Stmt → Stmt
  | .ClassDef _ _ _ b _ _ _ _ _ _ _ => b.getD 0 (.Pass ⟨0, 0, 0, 0⟩)
  | s => s
theorem xcls_mk {P : Program} {K : PySem.W.Frag} {C fI : Addr} {fld : Str} {st : Stmt} {msg : Str} {j : Nat} {p0 p1 p2 p3 p4 p5 p6 p7 p8 p9 : Pos} {nm q : Str} {N : Addr} {bs bm : List Value} {sn : List Str} {sub : List Value} {ab : Bool} {col : Option Bool} {dd : Option Addr} {k0 k1 k2 k3 k5 : Option Value}
    {oc doc pm ct ccl cl : Value} {od an cdd cld : Option Addr} {osl ccs csl : Array (Option Value)} {cc cda : Addr} {qual file : Str} {vs : Array Value} {tf : Tok} {ar : Arg}
    (hC : K.lookup C = some (excClassObj nm q C N bs bm true sn sub ab col dd k0 k1 k2 k3 k5 "ValueError.__new__")) (iC : PySem.W.findIn K (.ref C) "__init__" = some (some (.ref fI)))
    (lf : K.lookup fI = some ⟨oc, od, .func (PySem.W.ksFn "__init__" qual (defArgs st) (defBody st) (defScope st) .none .none doc pm an (.ref cda) ct cc), osl⟩)
    (lc : K.lookup cda = some ⟨ccl, cdd, .fields vs, ccs⟩) (ll : K.lookup cc = some ⟨cl, cld, .cell (some (.ref C)), csl⟩) (hbm : PySem.HandSPX.refsVE bm = true)
    (sa : PySem.W.findIn K (.ref C) "__setattr__" = some (some (.builtin "object.__setattr__"))) (no : PySem.W.findIn K (.ref C) fld = some none) (tI : PySem.W.typeIn K (.ref fI) = some (.type "function")) (kC : PySem.W.keepIn K (.ref C) = true)
    (exC : PySem.W.subIn K (.ref C) (.type "BaseException") = some true) (veC : PySem.W.subIn K (.ref C) (.type "ValueError") = some true) (tyC : PySem.W.typeIn K (.ref C) = some (.type "type")) (sf : PySem.W.mroIn K C (.ref C) = some true) (opq : PySem.W.nsIn K cStatics "thirdparty.any" = some none)
    (sup : PySem.W.ks_superIn K C C "__init__" = some (some (.builtin "ValueError.__init__"))) (hcd : PySem.W.codeIn K (.ref cda) qual = true) (hvs : vs[2]? = some (.str file tf)) (hfile : ((P.main.file : Str) == file) = true)
    (hb : defBody st = xiBody fld msg j p0 p1 p2 p3 p4 p5 p6 p7 p8 p9) (har : ((defArgs st).posonlyargs ++ (defArgs st).args).head? = some ar) (hs : ar.arg = "self")
    (s1 : (defScope st).names.lookup ("super" : Str) = some .globalImplicit) (s2 : (defScope st).names.lookup ("__class__" : Str) = some .free) (s3 : (defScope st).names.lookup ("self" : Str) = some .local) (s4 : (defScope st).names.lookup fld = some .local)
    (sc : ∀ x ∈ (defScope st).names, x.2 ≠ .cell) (sk : (defScope st).kind = .function) (sco : (defScope st).isCoroutine = false) (sg : (defScope st).isGenerator = false)
    (hbind : ∀ a b : Value, bindArgs (PySem.W.ksFn "__init__" qual (defArgs st) (defBody st) (defScope st) .none .none doc pm an (.ref cda) ct cc) ⟨[a, b], []⟩ = pure [(("self" : Str), a), (fld, b)])
    (hfs : (fld == ("self" : Str)) = false) (hfd : (fld == ("__debug__" : Str)) = false) (hl : (p2.endLine == p4.line) = true) (top : (P.main.scope.names.lookup ("super" : Str)).isSome = false) : XCls P K C fI fld := by
  rw [hb] at lf hbind
  exact ⟨⟨nm, q, N, bs, bm, sn, sub, ab, col, dd, k0, k1, k2, k3, k5, hC, hbm⟩, sa, no, iC, tI, kC, exC, veC, tyC, sf, opq, sup,
    ⟨oc, od, doc, pm, an, ct, osl, cc, cda, defArgs st, defScope st, qual, msg, j, p0, p1, p2, p3, p4, p5, p6, p7, p8, p9, ar, ccl, cdd, vs, ccs, file, tf, cl, cld, csl, lf, hcd, lc, hvs, hfile, ll, har, hs, s1, s2, s3, s4, sc, sk, sco, sg, hbind, hfs, hfd, hl⟩, top⟩
end Vs
set_option maxHeartbeats 4000000
/-! Vs: mirrors are run by simp. -/
namespace Vs
open PySem (Str PyData)
section
variable {ρ : Env} {a b c : M} {i : Nat} {x y : VV}
@[simp] theorem e_cst : cst x ρ = .ok x none := (rfl)
@[simp] theorem e_v : v i ρ = match look ρ i with | some (m, d) => .ok ⟨!(m == 0), m, d⟩ none | none => .no := by
  unfold v
  cases look ρ i with
  | none => rfl
  | some z => rfl
@[simp] theorem e_two {k : VV → VV → Option VV} : two a b k ρ = (a ρ).bind ρ fun x ρ1 => (b ρ1).nxt x.stable fun y => .ofO (k x y) := (rfl)
@[simp] theorem e_one {k : VV → Option VV} : one a k ρ = (a ρ).bind ρ fun x _ => .ofO (k x) := (rfl)
@[simp] theorem e_args0 : args [] ρ = .ok [] none := (rfl)
@[simp] theorem e_args1 {as : List M} : args (a :: as) ρ = (a ρ).bind ρ fun x ρ1 => (args as ρ1).nxt x.stable fun xs => .pu (x :: xs) := (rfl)
@[simp] theorem e_argsk {as : MA} {k : List VV → Option VV} : argsk as k ρ = (as ρ).bind ρ fun xs _ => .ofO (k xs) := (rfl)
@[simp] theorem e_tst {t : D → Option Bool} : tst a t ρ = (a ρ).bind ρ fun x _ => .ofO (t x.d) := (rfl)
@[simp] theorem e_tand {s t : MT} : tand s t ρ = (s ρ).bind ρ fun x ρ1 => if x = true then t ρ1 else .pu false := (rfl)
@[simp] theorem e_tor {s t : MT} : tor s t ρ = (s ρ).bind ρ fun x ρ1 => if x = true then .pu true else t ρ1 := (rfl)
@[simp] theorem e_tnot {s : MT} : tnot s ρ = (s ρ).bind ρ fun x _ => .pu (!x) := (rfl)
@[simp] theorem e_ift {s : MT} : ift s a b ρ = (s ρ).bind ρ fun x ρ1 => if x = true then a ρ1 else b ρ1 := (rfl)
@[simp] theorem e_fz {k : Nat} {is : List Nat} : fz k is a ρ = if isThin k is ρ = true then a ρ else ((a (thin k is ρ)).aft (some (thin k is ρ))) := (rfl)
@[simp] theorem e_sq {s t : MS} : sq s t ρ = (s ρ).seq t := (rfl)
@[simp] theorem e_asg {g : MG} : asg a g ρ = (a ρ).go ρ fun x ρ1 => g x ρ1 := (rfl)
@[simp] theorem e_ex : ex a ρ = (a ρ).go ρ fun _ ρ1 => .nx ρ1 := (rfl)
@[simp] theorem e_ret : ret a ρ = (a ρ).go ρ fun x ρ1 => match x.kept with | some pv => .ret pv ρ1 | none => .no := (rfl)
@[simp] theorem e_retv : retv i ρ = match look ρ i with | some pv => .ret pv (put ρ i none) | none => .no := (rfl)
@[simp] theorem e_ifs {s : MT} {t u : MS} : ifs s t u ρ = (s ρ).go ρ fun x ρ1 => if x = true then t ρ1 else u ρ1 := (rfl)
@[simp] theorem e_skip : skip ρ = .nx ρ := (rfl)
@[simp] theorem e_gname : gname i x ρ = match x.kept with | some pv => .nx (put ρ i (some pv)) | none => .no := (rfl)
@[simp] theorem e_gset : gset i b x ρ = match look ρ i with
  | none => .no
  | some _ => (b ρ).go ρ fun y ρ1 => match look ρ1 i, y.d with
    | some (m + 1, .lst l), .int k => if x.stable = true then (match nix l.length k with
        | some j => .nx (put ρ1 i (some ((if x.d.imm = true then m else min m x.m) + 1, .lst (l.set j x.d))))
        | none => .no) else .no
    | _, _ => .no := rfl
@[simp] theorem e_gt {p q : Bool} {m n : Nat} {i j : Int} : kGt ⟨p, m, .int i⟩ ⟨q, n, .int j⟩ = some (vb (decide (j < i))) := (rfl)
@[simp] theorem e_lt {p q : Bool} {m n : Nat} {i j : Int} : kLt ⟨p, m, .int i⟩ ⟨q, n, .int j⟩ = some (vb (decide (i < j))) := (rfl)
@[simp] theorem e_le {p q : Bool} {m n : Nat} {i j : Int} : kLe ⟨p, m, .int i⟩ ⟨q, n, .int j⟩ = some (vb (decide (i ≤ j))) := (rfl)
@[simp] theorem e_ge {p q : Bool} {m n : Nat} {i j : Int} : kGe ⟨p, m, .int i⟩ ⟨q, n, .int j⟩ = some (vb (decide (j ≤ i))) := (rfl)
@[simp] theorem e_addI {p q : Bool} {m n : Nat} {i j : Int} : kAdd ⟨p, m, .int i⟩ ⟨q, n, .int j⟩ = some (vi (i + j)) := (rfl)
@[simp] theorem e_subI {p q : Bool} {m n : Nat} {i j : Int} : kSub ⟨p, m, .int i⟩ ⟨q, n, .int j⟩ = some (vi (i - j)) := (rfl)
theorem e_mulI {p q : Bool} {m n : Nat} {i j : Int} (h : i.natAbs < big) (h' : j.natAbs < big) : kMul ⟨p, m, .int i⟩ ⟨q, n, .int j⟩ = some (vi (i * j)) := if_pos (.inl ⟨h, h'⟩)
theorem e_mulS {p q : Bool} {m n : Nat} {i j : Int} (h : j.natAbs < 18446744073709551616) : kMul ⟨p, m, .int i⟩ ⟨q, n, .int j⟩ = some (vi (i * j)) := if_pos (.inr h)
theorem e_modI {p q : Bool} {m n : Nat} {i j : Int} (h : 0 < j) : kMod ⟨p, m, .int i⟩ ⟨q, n, .int j⟩ = some (vi (i % j)) := if_pos h
theorem e_divI {p q : Bool} {m n : Nat} {i j : Int} (h : 0 < j) (h' : j.natAbs < big) : kDiv ⟨p, m, .int i⟩ ⟨q, n, .int j⟩ = some (vi (i / j)) := if_pos ⟨h, h'⟩
theorem e_powI {p q : Bool} {m n : Nat} {i j : Int} (h : i.natAbs < big) (h1 : 0 ≤ j) (h2 : j ≤ 100) : kPow ⟨p, m, .int i⟩ ⟨q, n, .int j⟩ = some (vi (i ^ j.toNat)) := if_pos ⟨h, h1, h2⟩
@[simp] theorem e_int {p : Bool} {m : Nat} {i : Int} : kInt [⟨p, m, .int i⟩] = some (vi i) := (rfl)
@[simp] theorem e_absI {p : Bool} {m : Nat} {i : Int} : kAbs [⟨p, m, .int i⟩] = some (vi (if i < 0 then -i else i)) := (rfl)
@[simp] theorem e_ixL {p q : Bool} {m n : Nat} {l : List D} {i : Int} : kIx ⟨p, m, .lst l⟩ ⟨q, n, .int i⟩ = (atD l i).map (sub ⟨p, m, .lst l⟩) := (rfl)
@[simp] theorem e_at0 {d : D} {l : List D} : atD (d :: l) 0 = some d := by
  unfold atD nix
  rw [if_pos (by decide), if_pos (by simp only [List.length_cons]; omega)]
  rfl
@[simp] theorem e_at1 {d e : D} {l : List D} : atD (d :: e :: l) 1 = some e := by
  unfold atD nix
  rw [if_pos (by decide), if_pos (by simp only [List.length_cons]; omega)]
  rfl
@[simp] theorem e_at2 {d e f : D} {l : List D} : atD (d :: e :: f :: l) 2 = some f := by
  unfold atD nix
  rw [if_pos (by decide), if_pos (by simp only [List.length_cons]; omega)]
  rfl
@[simp] theorem e_sub {p : Bool} {m : Nat} {d e : D} : sub ⟨p, m, d⟩ e = ⟨p && !(m - 1 == 0), m - 1, e⟩ := (rfl)
theorem small_big {i : Int} (h0 : -(2 ^ 64) < i) (h : i < 2 ^ 64) : i.natAbs < big := big_of (k := 64) (by omega) (by decide)
end
/-- a comprehension whose items are had without changes -/
theorem compL_pure {own : List Nat} {g : MG} {e : M} {k : D → VV} : ∀ (ds : List D) (ρ : Env) (acc : List VV), (∀ d ∈ ds, ∃ ρ1, g ⟨false, 0, d⟩ ρ = .nx ρ1 ∧ e ρ1 = .ok (k d) none ∧ (k d).stable = true) → compL own g yes e ds ρ acc = .ok (acc ++ ds.map k) none
  | [], ρ, acc, _ => by
    unfold compL
    rw [List.map_nil, List.append_nil]
  | d :: ds, ρ, acc, h => by
    obtain ⟨ρ1, h1, h2, h3⟩ := h d (List.mem_cons_self ..)
    have ih := compL_pure (own := own) (g := g) (e := e) ds ρ (acc ++ [k d]) fun d hd => h d (List.mem_cons_of_mem _ hd)
    unfold compL
    rw [h1]
    have hy : yes ρ1 = .ok true none := rfl
    simp only [hy, now_none, h2, h3, if_true, thn_none, Option.map_none, R.aft_none, ih]
    rw [List.map_cons, List.append_assoc]
    rfl
/-- a comprehension whose items change something: P, by the turn -/
theorem compL_eff {own : List Nat} {g : MG} {e : M} {P : Nat → Env → List VV → Prop} : ∀ (ds : List D) (n : Nat) (ρ : Env) (acc : List VV),
    (∀ i d ρ acc, ds[i]? = some d → P (n + i) ρ acc → ∃ ρ1 x ρ2, g ⟨false, 0, d⟩ ρ = .nx ρ1 ∧ e ρ1 = .ok x (some ρ2) ∧ x.stable = true ∧ P (n + i + 1) (wipeE own ρ2) (acc ++ [x])) → P n ρ acc →
    ∃ xs o, compL own g yes e ds ρ acc = .ok xs o ∧ P (n + ds.length) (now o ρ) xs
  | [], n, ρ, acc, _, h => ⟨acc, none, rfl, h⟩
  | d :: ds, n, ρ, acc, hs, h => by
    obtain ⟨ρ1, x, ρ2, h1, h2, h3, h4⟩ := hs 0 d ρ acc rfl h
    obtain ⟨xs, o, h5, h6⟩ := compL_eff (own := own) (g := g) (e := e) ds (n + 1) (wipeE own ρ2) (acc ++ [x]) (fun i d' ρ acc hi hp => by
      have := hs (i + 1) d' ρ acc (by simpa using hi) (by rw [show n + (i + 1) = n + 1 + i by omega]; exact hp)
      rw [show n + (i + 1) + 1 = n + 1 + i + 1 by omega] at this
      exact this) h4
    refine ⟨xs, Vs.thn (some (wipeE own ρ2)) o, ?_, ?_⟩
    · unfold compL
      rw [h1]
      have hy : yes ρ1 = .ok true none := rfl
      simp only [hy, now_none, h2, h3, if_true, thn_some, Option.map_some, Option.map_none, now_some, h5, R.aft_ok, none_thn]
    · have e2 : now (Vs.thn (some (wipeE own ρ2)) o) ρ = now o (wipeE own ρ2) := by cases o <;> rfl
      rw [e2, List.length_cons, show n + (ds.length + 1) = n + 1 + ds.length by omega]
      exact h6
/-- a loop that goes through -/
theorem forL_inv {g : MG} {b : MS} {P : Nat → Env → Prop} : ∀ (ds : List D) (n : Nat) (ρ : Env), (∀ i d ρ, ds[i]? = some d → P (n + i) ρ → ∃ ρ', (g ⟨false, 0, d⟩ ρ).seq b = .nx ρ' ∧ P (n + i + 1) ρ') → P n ρ → ∃ ρ', forL g b ds ρ = .nx ρ' ∧ P (n + ds.length) ρ'
  | [], n, ρ, _, h => ⟨ρ, rfl, h⟩
  | d :: ds, n, ρ, hs, h => by
    obtain ⟨ρ1, h1, h2⟩ := hs 0 d ρ rfl h
    obtain ⟨ρ', h3, h4⟩ := forL_inv (g := g) (b := b) ds (n + 1) ρ1 (fun i d' ρ hi hp => by
      have := hs (i + 1) d' ρ (by simpa using hi) (by rw [show n + (i + 1) = n + 1 + i by omega]; exact hp)
      rw [show n + (i + 1) + 1 = n + 1 + i + 1 by omega] at this
      exact this) h2
    refine ⟨ρ', ?_, by rw [List.length_cons, show n + (ds.length + 1) = n + 1 + ds.length by omega]; exact h4⟩
    unfold forL
    rw [h1]
    exact h3
end Vs
set_option maxHeartbeats 4000000
/-! Vs: numbers in lists. -/
namespace Vs
open PySem (Str PyData)
/-! ### numbers in lists -/
def dnat (l : List Nat) : List D := l.map fun (i : Nat) => D.int (i : Int)
@[simp] theorem dnat_nil : dnat [] = [] := (rfl)
@[simp] theorem dnat_cons (a : Nat) (l : List Nat) : dnat (a :: l) = .int a :: dnat l := (rfl)
@[simp] theorem dnat_length (l : List Nat) : (dnat l).length = l.length := List.length_map ..
theorem dnat_append (l k : List Nat) : dnat (l ++ k) = dnat l ++ dnat k := List.map_append ..
theorem dnat_get (l : List Nat) (i : Nat) : (dnat l)[i]? = l[i]?.map fun (i : Nat) => D.int (i : Int) := List.getElem?_map ..
theorem dnat_set (l : List Nat) (i a : Nat) : (dnat l).set i (.int a) = dnat (l.set i a) := by
  unfold dnat
  rw [List.map_set]
theorem rng_dnat (n : Nat) : rng 0 (n : Int) = dnat (List.range n) := by
  unfold rng dnat
  rw [show ((n : Int) - 0).toNat = n by omega]
  exact List.map_congr_left fun i _ => by rw [Int.zero_add]
theorem nix_nat {n i : Nat} (h : i < n) : nix n (i : Int) = some i := by
  unfold nix
  rw [if_pos (by omega), if_pos (by omega)]
  rfl
theorem nix_last {n : Nat} (h : 0 < n) : nix n (-1) = some (n - 1) := by
  unfold nix
  rw [if_neg (by omega), if_pos (by omega)]
  congr 1
  omega
theorem at_nat {l : List D} {i : Nat} (h : i < l.length) : atD l (i : Int) = some l[i] := by
  unfold atD
  rw [nix_nat h]
  exact List.getElem?_eq_getElem h
theorem at_last {l : List D} (h : l ≠ []) : atD l (-1) = some (l.getLast h) := by
  unfold atD
  rw [nix_last (List.length_pos_iff.mpr h)]
  show l[l.length - 1]? = _
  rw [← List.getLast?_eq_getElem?, List.getLast?_eq_some_getLast h]
theorem at_dnat {l : List Nat} {i : Nat} (h : i < l.length) : atD (dnat l) (i : Int) = some (.int (l[i] : Nat)) := by
  rw [at_nat (by rw [dnat_length]; exact h)]
  unfold dnat
  rw [List.getElem_map]
theorem at_dnat' {l : List Nat} {i : Nat} (h : i < l.length) : atD (dnat l) (i : Int) = some (.int (l.getD i 0 : Nat)) := by
  rw [at_dnat h, List.getD_eq_getElem?_getD, List.getElem?_eq_getElem h]
  rfl
def nth (l : List Nat) (i : Nat) : Nat := l.getD i 0
theorem nth_eq {l : List Nat} {i : Nat} (h : i < l.length) : nth l i = l[i] := by
  unfold nth
  rw [List.getD_eq_getElem?_getD, List.getElem?_eq_getElem h]
  rfl
theorem nth_mem {l : List Nat} {i : Nat} (h : i < l.length) : nth l i ∈ l := by
  rw [nth_eq h]
  exact List.getElem_mem h
theorem at_nth {l : List Nat} {i : Nat} (h : i < l.length) : atD (dnat l) (i : Int) = some (.int (nth l i : Nat)) := by
  rw [at_dnat h, nth_eq h]
end Vs
set_option maxHeartbeats 4000000
/-! Vs: plain tools for the mirrors. -/
namespace Vs
open PySem (Str PyData)
section
variable {ρ : Env} {a b c : M} {i : Nat} {x y : VV}
@[simp] theorem e_call {f : List PV → RF} {df : List PV} {as : List AK} : call f df as ρ = (cargs as ρ).bind ρ fun avs ρ1 => callG f (avs ++ df.map .o) ρ1 (grab (avs ++ df.map .o) ρ1) := (rfl)
@[simp] theorem e_cargs0 : cargs [] ρ = .ok [] none := (rfl)
@[simp] theorem e_cargsL {as : List AK} : cargs (.lend i :: as) ρ = match look ρ i with
    | some _ => (cargs as ρ).bind ρ fun xs _ => .pu (.l i :: xs)
    | none => .no := rfl
@[simp] theorem e_cargsV {as : List AK} : cargs (.val a :: as) ρ = (a ρ).bind ρ fun x ρ1 => match x.kept with
    | some pv => (cargs as ρ1).bind ρ1 fun xs _ => .pu (.o pv :: xs)
    | none => .no := rfl
@[simp] theorem e_grab0 : grab [] ρ = some ([], ρ) := (rfl)
@[simp] theorem e_grabL {as : List AV} : grab (.l i :: as) ρ = match look ρ i with
    | some pv => (match grab as (put ρ i none) with | some (pvs, ρ') => some (pv :: pvs, ρ') | none => none)
    | none => none := rfl
@[simp] theorem e_grabO {as : List AV} {pv : PV} : grab (.o pv :: as) ρ = match grab as ρ with | some (pvs, ρ') => some (pv :: pvs, ρ') | none => none := (rfl)
@[simp] theorem e_callG {f : List PV → RF} {avs : List AV} {pvs : List PV} {ρ2 : Env} : callG f avs ρ (some (pvs, ρ2)) = if avs.all (AV.quiet ρ) = true then (f pvs).pure ρ else (f pvs).fin avs ρ2 := (rfl)
@[simp] theorem e_quietO {pv : PV} : AV.quiet ρ (.o pv) = true := (rfl)
@[simp] theorem e_quietL : AV.quiet ρ (.l i) = match look ρ i with | some pv => pv.cold | none => false := (rfl)
@[simp] theorem e_cold0 {d : D} : PV.cold (0, d) = true := (rfl)
@[simp] theorem e_coldS {m : Nat} {d : D} : PV.cold (m + 1, d) = d.imm := by unfold PV.cold; simp
@[simp] theorem e_coldI {m : Nat} {i : Int} : PV.cold (m, .int i) = true := by unfold PV.cold; simp
@[simp] theorem e_cold1 {d : D} : PV.cold (1, d) = d.imm := by unfold PV.cold; simp
@[simp] theorem e_cold2 {d : D} : PV.cold (2, d) = d.imm := by unfold PV.cold; simp
@[simp] theorem e_cold3 {d : D} : PV.cold (3, d) = d.imm := by unfold PV.cold; simp
@[simp] theorem e_fin {r : PV} {out : Env} {avs : List AV} : (RF.ok r out).fin avs ρ = .ok ⟨false, r.1, r.2⟩ (some (back avs out ρ)) := (rfl)
@[simp] theorem e_finx {e : Ex} {out : Env} {avs : List AV} : (RF.ex e out).fin avs ρ = .ex e (back avs out ρ) := (rfl)
@[simp] theorem e_pure {r : PV} {out : Env} : (RF.ok r out).pure ρ = .ok ⟨false, r.1, r.2⟩ none := (rfl)
@[simp] theorem e_purex {e : Ex} {out : Env} : (RF.ex e out).pure ρ = .ex e ρ := (rfl)
@[simp] theorem e_backL {as : List AV} {z : Option PV} {out : Env} : back (.l i :: as) (z :: out) ρ = back as out (put ρ i z) := (rfl)
@[simp] theorem e_backO {as : List AV} {pv : PV} {z : Option PV} {out : Env} : back (.o pv :: as) (z :: out) ρ = back as out ρ := (rfl)
@[simp] theorem e_back0 {out : Env} : back [] out ρ = ρ := by cases out <;> rfl
@[simp] theorem e_outs0 {r : Env} : outs [] r = [] := (rfl)
@[simp] theorem e_outsT {bs : List Bool} {z : Option PV} {r : Env} : outs (true :: bs) (z :: r) = z :: outs bs r := (rfl)
@[simp] theorem e_outsF {bs : List Bool} {z : Option PV} {r : Env} : outs (false :: bs) (z :: r) = none :: outs bs r := (rfl)
@[simp] theorem e_fnx {l : List Bool} : fnF l (.nx ρ) = .ok (0, .non) (outs l ρ) := (rfl)
@[simp] theorem e_fret {l : List Bool} {r : PV} : fnF l (.ret r ρ) = .ok r (outs l ρ) := (rfl)
@[simp] theorem e_fex {l : List Bool} {e : Ex} : fnF l (.ex e ρ) = .ex e (outs l ρ) := (rfl)
@[simp] theorem e_isThin0 {k : Nat} : isThin k [] ρ = true := (rfl)
@[simp] theorem e_isThin1 {k : Nat} {is : List Nat} : isThin k (i :: is) ρ = ((match look ρ i with | some (m, d) => decide (m ≤ k) || d.imm | none => true) && isThin k is ρ) := (rfl)
@[simp] theorem e_thin0 {k : Nat} : thin k [] ρ = ρ := (rfl)
@[simp] theorem e_thin1 {k : Nat} {is : List Nat} : thin k (i :: is) ρ = match look ρ i with
    | some (m, d) => thin k is (put ρ i (some (min m k, d)))
    | none => thin k is ρ := rfl
@[simp] theorem e_par {i j : Nat} {as : MA} : par i j as ρ = (as ρ).go ρ fun xs ρ1 => match xs with
  | [x, y] => (gname i x ρ1).seq fun ρ2 => gname j y ρ2
  | _ => .no := rfl
@[simp] theorem e_fors {it : MI} {g : MG} {body : MS} : fors it g body ρ = (it ρ).go ρ fun ds ρ1 => forL g body ds ρ1 := (rfl)
@[simp] theorem e_it1 {k : VV → Option (List D)} : it1 k a ρ = (a ρ).bind ρ fun x _ => .ofO (k x) := (rfl)
@[simp] theorem e_itN {k : List VV → Option (List D)} {as : MA} : itN k as ρ = (as ρ).bind ρ fun xs _ => .ofO (k xs) := (rfl)
@[simp] theorem e_comp {it : MI} {g : MG} {cs : MT} {own : List Nat} : comp it g cs a own ρ = (it ρ).bind ρ fun ds ρ1 => compF (compL own g cs a ds (wipeE own ρ1) []) := (rfl)
@[simp] theorem e_compF {xs : List VV} {o : Option Env} : compF (.ok xs o) = (R.ofO (kLst xs)).aft o := (rfl)
@[simp] theorem e_recv {as : MA} {k : PV → List VV → Option (VV × PV)} : recv i as k ρ = match look ρ i with
  | some (_, .lst _) => (as ρ).bind ρ fun xs ρ1 => (match look ρ1 i with
    | some pv => (match k pv xs with | some (r, pv') => .ef r (put ρ1 i (some pv')) | none => .no)
    | none => .no)
  | _ => .no := rfl
@[simp] theorem e_meth {ty : D → Bool} {as : MA} {k : VV → List VV → Option VV} : meth ty a as k ρ = (a ρ).bind ρ fun x ρ1 => if ty x.d = true then (as ρ1).nxt x.stable fun xs => .ofO (k x xs) else .no := (rfl)
@[simp] theorem e_slc {lo hi : Option M} : slc a lo hi ρ = (a ρ).bind ρ fun x ρ1 => (part lo ρ1).nxt false fun l => (part hi ρ1).nxt false fun u => .ofO (kSl x l u) := (rfl)
@[simp] theorem e_part0 : part none ρ = .ok none none := (rfl)
@[simp] theorem e_part1 : part (some a) ρ = (a ρ).bind ρ fun y _ => .ofO (intOf y) := (rfl)
@[simp] theorem e_intOf {p : Bool} {m : Nat} {i : Int} : intOf ⟨p, m, .int i⟩ = some (some i) := (rfl)
@[simp] theorem e_vand : vand a b ρ = (a ρ).bind ρ fun x ρ1 => match x.d with
  | .bl true => b ρ1 | .bl false => .pu (vb false) | _ => .no := rfl
@[simp] theorem e_vor : vor a b ρ = (a ρ).bind ρ fun x ρ1 => match x.d with
  | .bl true => .pu (vb true) | .bl false => b ρ1 | _ => .no := rfl
@[simp] theorem e_chain {φ ψ : Int → Int → Bool} : chain a b c φ ψ ρ = (a ρ).bind ρ fun x ρ1 => (b ρ1).bind ρ1 fun y ρ2 => match x.d, y.d with
  | .int i, .int j => if φ i j = true then (c ρ2).bind ρ2 fun w _ => (match w.d with | .int k => .pu (vb (ψ j k)) | _ => .no) else .pu (vb false)
  | _, _ => .no := rfl
@[simp] theorem e_soft {is : List Nat} : soft is a ρ = match a (thin 0 is ρ) with
  | .no => .no
  | .ok x none => if x.plain = true then .pu x else fz 0 is a ρ
  | _ => fz 0 is a ρ := rfl
@[simp] theorem e_yes : yes ρ = .ok true none := (rfl)
@[simp] theorem e_retN : retN ρ = .ret (0, .non) ρ := (rfl)
@[simp] theorem e_byK {is js : List Nat} {f : List PV → RF} {p : List PV} : byK is js f p = (f (sel is p)).outBy js := (rfl)
@[simp] theorem e_sel0 {α : Type} {l : List α} : sel [] l = [] := (rfl)
@[simp] theorem e_sel1 {α : Type} {is : List Nat} {l : List α} : sel (i :: is) l = match l[i]? with
    | some x => x :: sel is l
    | none => sel is l := rfl
@[simp] theorem e_outBy {js : List Nat} {r : PV} {out : Env} : (RF.ok r out).outBy js = .ok r (sel js out) := (rfl)
@[simp] theorem e_tstb {p : Bool} {m : Nat} {q : Bool} : blOf (VV.d ⟨p, m, .bl q⟩) = some q := (rfl)
/-! kernels -/
@[simp] theorem e_lenL {p : Bool} {m : Nat} {l : List D} : kLen [⟨p, m, .lst l⟩] = some (vi l.length) := (rfl)
@[simp] theorem e_lenT {p : Bool} {m : Nat} {l : List D} : kLen [⟨p, m, .tup l⟩] = some (vi l.length) := (rfl)
@[simp] theorem e_isi {p : Bool} {m : Nat} {t : Ty} {d : D} : kIsi t ⟨p, m, d⟩ = (d.isTy t).map vb := (rfl)
@[simp] theorem e_tyInt {t : Ty} {i : Int} : D.isTy t (.int i) = some (match t with | .int => true | _ => false) := (rfl)
@[simp] theorem e_tyBl {t : Ty} {i : Bool} : D.isTy t (.bl i) = some (match t with | .int => true | .bool => true | _ => false) := (rfl)
@[simp] theorem e_tyStr {t : Ty} {i : Str} : D.isTy t (.str i) = some (match t with | .str => true | _ => false) := (rfl)
@[simp] theorem e_tyNon {t : Ty} : D.isTy t .non = some false := (rfl)
@[simp] theorem e_tyLst {t : Ty} {l : List D} : D.isTy t (.lst l) = some (match t with | .list => true | _ => false) := (rfl)
@[simp] theorem e_tyTup {t : Ty} {l : List D} : D.isTy t (.tup l) = some (match t with | .tuple => true | _ => false) := (rfl)
@[simp] theorem e_tyDic {t : Ty} {q : Bool} {l : List (D × D)} : D.isTy t (.dic q l) = some (match t with | .dict => true | _ => false) := (rfl)
@[simp] theorem e_isN {p q : Bool} {m n : Nat} {d : D} : kIs ⟨p, m, d⟩ ⟨q, n, .non⟩ = some (vb d.isNon) := (rfl)
@[simp] theorem e_isnotN {p q : Bool} {m n : Nat} {d : D} : kIsNot ⟨p, m, d⟩ ⟨q, n, .non⟩ = some (vb (!d.isNon)) := (rfl)
@[simp] theorem e_isNonI {i : Int} : D.isNon (.int i) = false := (rfl)
@[simp] theorem e_isNonL {i : List D} : D.isNon (.lst i) = false := (rfl)
@[simp] theorem e_isNonN : D.isNon .non = true := (rfl)
@[simp] theorem e_neg {p : Bool} {m : Nat} {i : Int} : kNeg ⟨p, m, .int i⟩ = some (vi (-i)) := (rfl)
@[simp] theorem e_not {p : Bool} {m : Nat} {q : Bool} : kNot ⟨p, m, .bl q⟩ = some (vb (!q)) := (rfl)
@[simp] theorem e_max {p q : Bool} {m n : Nat} {i j : Int} : kMax [⟨p, m, .int i⟩, ⟨q, n, .int j⟩] = some (vi (if j > i then j else i)) := (rfl)
@[simp] theorem e_min {p q : Bool} {m n : Nat} {i j : Int} : kMin [⟨p, m, .int i⟩, ⟨q, n, .int j⟩] = some (vi (if j < i then j else i)) := (rfl)
theorem e_range1 {p : Bool} {m : Nat} {j : Int} (h : -(2 ^ 62) ≤ j) (h' : j < 2 ^ 62) : kR1 [⟨p, m, .int j⟩] = some (rng 0 j) := if_pos ⟨h, h'⟩
theorem e_range2 {p q : Bool} {m n : Nat} {i j : Int} (h1 : -(2 ^ 62) ≤ i) (h2 : i < 2 ^ 62) (h : -(2 ^ 62) ≤ j) (h' : j < 2 ^ 62) : kR2 [⟨p, m, .int i⟩, ⟨q, n, .int j⟩] = some (rng i j) := if_pos ⟨h1, h2, h, h'⟩
theorem e_listRange {p : Bool} {m : Nat} {j : Int} (h : -(2 ^ 62) ≤ j) (h' : j ≤ 16777216) : kRange [⟨p, m, .int j⟩] = some ⟨false, 1, .lst (rng 0 j)⟩ := if_pos ⟨h, h'⟩
@[simp] theorem e_kLo {m : Nat} {l : List D} : kL ⟨false, m, .lst l⟩ = some l := (rfl)
@[simp] theorem e_kL0 {p : Bool} {l : List D} : kL ⟨p, 0, .lst l⟩ = some l := if_pos (.inr rfl)
@[simp] theorem e_kTo {m : Nat} {l : List D} : kT ⟨false, m, .tup l⟩ = some l := (rfl)
@[simp] theorem e_kE0 {p : Bool} {l : List D} : kE [⟨p, 0, .lst l⟩] = some (enumD 0 l) := if_pos (.inr rfl)
@[simp] theorem e_kEo {m : Nat} {l : List D} : kE [⟨false, m, .lst l⟩] = some (enumD 0 l) := (rfl)
@[simp] theorem e_rng {i : Int} {n : Nat} (h : n ≤ 100) : True := trivial
theorem e_append {m : Nat} {l : List D} {x : VV} (h : x.stable = true) (h2 : l.length < lim) : rAppend (m + 1, .lst l) [x] = some (vn, ((if x.d.imm = true then m else min m x.m) + 1, .lst (l ++ [x.d]))) := if_pos ⟨h, h2⟩
theorem lim_num : lim = 16777216 := rfl
theorem e_kept {x : VV} (h : x.stable = true) : x.kept = some (x.m, x.d) := by unfold VV.kept; rw [if_pos h]
@[simp] theorem e_keptI {p : Bool} {m : Nat} {i : Int} : VV.kept ⟨p, m, .int i⟩ = some (m, .int i) := kept_bint _ _ _ rfl
@[simp] theorem e_keptB {p : Bool} {m : Nat} {i : Bool} : VV.kept ⟨p, m, .bl i⟩ = some (m, .bl i) := kept_bint _ _ _ rfl
@[simp] theorem e_keptS {p : Bool} {m : Nat} {i : Str} : VV.kept ⟨p, m, .str i⟩ = some (m, .str i) := kept_bint _ _ _ rfl
@[simp] theorem e_keptN {p : Bool} {m : Nat} : VV.kept ⟨p, m, .non⟩ = some (m, .non) := kept_bint _ _ _ rfl
@[simp] theorem e_stableI {p : Bool} {m : Nat} {i : Int} : VV.stable ⟨p, m, .int i⟩ = true := stable_imm _ _ _ rfl
@[simp] theorem e_stableB {p : Bool} {m : Nat} {i : Bool} : VV.stable ⟨p, m, .bl i⟩ = true := stable_imm _ _ _ rfl
@[simp] theorem e_stableS {p : Bool} {m : Nat} {i : Str} : VV.stable ⟨p, m, .str i⟩ = true := stable_imm _ _ _ rfl
@[simp] theorem e_stableN {p : Bool} {m : Nat} : VV.stable ⟨p, m, .non⟩ = true := stable_imm _ _ _ rfl
@[simp] theorem e_openO {m : Nat} {d : D} : VV.open ⟨false, m, d⟩ := .inl rfl
@[simp] theorem e_open0 {p : Bool} {d : D} : VV.open ⟨p, 0, d⟩ := .inr (Nat.zero_le _)
@[simp] theorem e_open1 {p : Bool} {d : D} : VV.open ⟨p, 1, d⟩ := .inr (Nat.le_refl _)
@[simp] theorem e_wipe0 : wipeE [] ρ = ρ := (rfl)
@[simp] theorem e_wipe1 {is : List Nat} : wipeE (i :: is) ρ = wipeE is (put ρ i none) := (rfl)
end
/-! ### what may be compared, written -/
/-- of a bounded size, no dict in it -/
structure Nice (k j : Nat) (d : D) : Prop where
  fl : d.flat = true
  cl : d.py.canLay0 = true
  dp : d.py.depth ≤ j
  bk : d.py.bulk ≤ k
  lv : d.py.leavesShort 100 = true
  sh : d.py.showable = true
structure NiceAll (k j : Nat) (l : List D) : Prop where
  fl : flatAll l = true
  cl : PyData.canLayAll0 (pyAll l) = true
  dp : PyData.depthAll (pyAll l) ≤ j
  bk : PyData.bulkAll (pyAll l) ≤ k
  lv : PyData.leavesShortAll 100 (pyAll l) = true
  sh : PyData.showableAll (pyAll l) = true
theorem Nice.le {k j k' j' : Nat} {d : D} (h : Nice k j d) (hk : k ≤ k') (hj : j ≤ j') : Nice k' j' d := ⟨h.fl, h.cl, Nat.le_trans h.dp hj, Nat.le_trans h.bk hk, h.lv, h.sh⟩
theorem Nice.non : Nice 0 0 .non := ⟨rfl, rfl, Nat.le_refl _, Nat.le_refl _, rfl, rfl⟩
theorem Nice.bl (b : Bool) : Nice 0 0 (.bl b) := ⟨rfl, rfl, Nat.le_refl _, Nat.le_refl _, rfl, rfl⟩
theorem Nice.int {i : Int} (h : i.natAbs < 10 ^ 90) : Nice 0 0 (.int i) := by
  refine ⟨rfl, rfl, Nat.le_refl _, Nat.le_refl _, ?_, ?_⟩
  rotate_left
  · show PyData.showable (.int i) = true
    rw [PyData.showable.eq_4]
    refine decide_eq_true ?_
    by_cases z : i.natAbs = 0
    · rw [z]; decide
    · rw [Nat.log2_lt z]
      exact Nat.lt_of_lt_of_le h (Nat.le_trans (by decide : 10 ^ 90 ≤ 2 ^ 300) (Nat.pow_le_pow_right (by decide) (by decide)))
  have h2 := PySem.int_text_length_le10 (a := i) (k := 90) (by decide) h
  have h1 : (PyData.shown (.int i)).length ≤ 100 := by
    rw [PyData.shown.eq_3]
    have e : (PySem.Str.ofString (toString i)).length = (toString i).length := PySem.ofString_length _
    omega
  show PyData.leavesShort 100 (.int i) = true
  unfold PyData.leavesShort
  exact decide_eq_true h1
theorem NiceAll.nil {k j : Nat} : NiceAll k j [] := ⟨rfl, rfl, Nat.zero_le _, Nat.zero_le _, rfl, rfl⟩
theorem NiceAll.cons {k j k' : Nat} {d : D} {l : List D} (h : Nice k j d) (g : NiceAll k' j l) : NiceAll (k + 1 + k') j (d :: l) := by
  obtain ⟨a1, a2, a3, a4, a5, a6⟩ := h
  obtain ⟨b1, b2, b3, b4, b5, b6⟩ := g
  refine ⟨by unfold flatAll; simp [a1, b1], ?_, ?_, ?_, ?_, ?_⟩
  · simp only [pyAll, PyData.canLayAll0, a2, b2, Bool.and_true]
  · simp only [pyAll, PyData.depthAll]; omega
  · simp only [pyAll, PyData.bulkAll]; omega
  · simp only [pyAll, PyData.leavesShortAll, a5, b5, Bool.and_true]
  · simp only [pyAll, PyData.showableAll, a6, b6, Bool.and_true]
theorem NiceAll.of {k j : Nat} : ∀ {l : List D}, (∀ d ∈ l, Nice k j d) → NiceAll ((k + 1) * l.length) j l
  | [], _ => .nil
  | d :: l, h => by
    have := NiceAll.cons (h d (List.mem_cons_self ..)) (NiceAll.of (l := l) fun e he => h e (List.mem_cons_of_mem _ he))
    rw [show k + 1 + (k + 1) * l.length = (k + 1) * (d :: l).length by rw [List.length_cons, Nat.mul_succ]; omega] at this
    exact this
theorem NiceAll.lst {k j : Nat} {l : List D} (h : NiceAll k j l) : Nice k (j + 1) (.lst l) := by
  obtain ⟨b1, b2, b3, b4, b5, b6⟩ := h
  refine ⟨by unfold D.flat; exact b1, ?_, ?_, ?_, ?_, ?_⟩
  · simp only [D.py, PyData.canLay0, b2]
  · simp only [D.py, PyData.depth]; omega
  · simp only [D.py, PyData.bulk]; omega
  · simp only [D.py, PyData.leavesShort, b5]
  · simp only [D.py, PyData.showable, b6]
theorem NiceAll.tup {k j : Nat} {l : List D} (h : NiceAll k j l) : Nice k (j + 1) (.tup l) := by
  obtain ⟨b1, b2, b3, b4, b5, b6⟩ := h
  refine ⟨by unfold D.flat; exact b1, ?_, ?_, ?_, ?_, ?_⟩
  · simp only [D.py, PyData.canLay0, b2]
  · simp only [D.py, PyData.depth]; omega
  · simp only [D.py, PyData.bulk]; omega
  · simp only [D.py, PyData.leavesShort, b5]
  · simp only [D.py, PyData.showable, b6]
theorem Nice.lstOf {k j n : Nat} {l : List D} (h : ∀ d ∈ l, Nice k j d) (hn : l.length ≤ n) : Nice ((k + 1) * n) (j + 1) (.lst l) := (NiceAll.of h).lst.le (Nat.mul_le_mul_left _ hn) (Nat.le_refl _)
theorem Nice.tupOf {k j n : Nat} {l : List D} (h : ∀ d ∈ l, Nice k j d) (hn : l.length ≤ n) : Nice ((k + 1) * n) (j + 1) (.tup l) := (NiceAll.of h).tup.le (Nat.mul_le_mul_left _ hn) (Nat.le_refl _)
theorem Nice.dnat {n : Nat} {l : List Nat} (h : ∀ i ∈ l, i < 10 ^ 90) (hn : l.length ≤ n) : Nice n 1 (.lst (dnat l)) := by
  have := Nice.lstOf (k := 0) (j := 0) (n := n) (l := Vs.dnat l) (fun d hd => by
    unfold Vs.dnat at hd
    obtain ⟨i, hi, rfl⟩ := List.mem_map.mp hd
    exact .int (by have := h i hi; omega)) (by rw [dnat_length]; exact hn)
  rw [Nat.zero_add, Nat.one_mul] at this
  exact this
theorem Nice.shp {k j : Nat} {d : D} (h : Nice k j d) (hj : j ≤ 64) : d.shp = true := by
  unfold D.shp PySem.SeqAt.shaped
  rw [h.fl, h.cl, Bool.true_and, Bool.true_and]
  exact decide_eq_true (Nat.le_trans h.dp hj)
theorem Nice.shw {k j : Nat} {d : D} (h : Nice k j d) (hk : k ≤ 100000) (hj : j ≤ 60) : d.shw = true := by
  unfold D.shw
  have h1 := PyData.shown_le_bulk 100 (by decide) d.py h.lv
  have h2 := h.bk
  rw [h.fl, h.sh, Bool.true_and, decide_eq_true (show d.py.shown.length ≤ lim by rw [lim_num]; omega), Bool.true_and]
  exact decide_eq_true (Nat.le_trans h.dp hj)
mutual
theorem D.eqv_refl : ∀ d : D, d.flat = true → PyData.eqv d.py d.py = true
  | .non, _ => rfl
  | .bl b, _ => by simp [D.py, PyData.eqv]
  | .int i, _ => by simp [D.py, PyData.eqv]
  | .str s, _ => by simp [D.py, PyData.eqv]
  | .lst l, h => by
    simp only [D.py, PyData.eqv]
    exact eqvAll_refl l (by simpa [D.flat] using h)
  | .tup l, h => by
    simp only [D.py, PyData.eqv]
    exact eqvAll_refl l (by simpa [D.flat] using h)
  | .dic _ l, h => by simp [D.flat] at h
  | .ins c l, h => by simp [D.flat] at h
theorem eqvAll_refl : ∀ l : List D, flatAll l = true → PyData.eqvAll (pyAll l) (pyAll l) = true
  | [], _ => rfl
  | d :: l, h => by
    unfold flatAll at h
    rw [Bool.and_eq_true] at h
    simp only [pyAll, PyData.eqvAll, D.eqv_refl d h.1, eqvAll_refl l h.2, Bool.and_true]
end
theorem strs2_self {d : D} : strs2 d d = none ∨ strs2 d d = some true := by
  cases d with
  | str a => right; unfold strs2; simp
  | _ => left; rfl
theorem e_eqSame {p q : Bool} {m n : Nat} {d : D} (h : d.shp = true) : kEq ⟨p, m, d⟩ ⟨q, n, d⟩ = some (vb true) := by
  unfold kEq
  rcases strs2_self (d := d) with e | e
  · simp only [e]
    rw [if_pos ⟨h, h⟩]
    have : d.eqv d = true := D.eqv_refl d (by unfold D.shp at h; rw [Bool.and_eq_true] at h; exact h.1)
    rw [this]
  · simp only [e]
theorem e_neSame {p q : Bool} {m n : Nat} {d : D} (h : d.shp = true) : kNe ⟨p, m, d⟩ ⟨q, n, d⟩ = some (vb false) := by
  unfold kNe
  rcases strs2_self (d := d) with e | e
  · simp only [e]
    rw [if_pos ⟨h, h⟩]
    have : d.eqv d = true := D.eqv_refl d (by unfold D.shp at h; rw [Bool.and_eq_true] at h; exact h.1)
    rw [this]
    rfl
  · simp only [e]
    rfl
@[simp] theorem e_eqStr {p q : Bool} {m n : Nat} {a b : Str} : kEq ⟨p, m, .str a⟩ ⟨q, n, .str b⟩ = some (vb (decide (a = b))) := (rfl)
@[simp] theorem e_neStr {p q : Bool} {m n : Nat} {a b : Str} : kNe ⟨p, m, .str a⟩ ⟨q, n, .str b⟩ = some (vb (!decide (a = b))) := (rfl)
@[simp] theorem eqv_ints {i j : Int} : D.eqv (.int i) (.int j) = decide (i = j) := by
  unfold D.eqv
  simp only [D.py, PyData.eqv]
  rfl
@[simp] theorem e_eqI {p q : Bool} {m n : Nat} {i j : Int} : kEq ⟨p, m, .int i⟩ ⟨q, n, .int j⟩ = some (vb (decide (i = j))) := by
  show (if D.shp (.int i) = true ∧ D.shp (.int j) = true then some (vb (D.eqv (.int i) (.int j))) else none) = _
  rw [if_pos ⟨rfl, rfl⟩, eqv_ints]
@[simp] theorem e_neI {p q : Bool} {m n : Nat} {i j : Int} : kNe ⟨p, m, .int i⟩ ⟨q, n, .int j⟩ = some (vb (!decide (i = j))) := by
  show (if D.shp (.int i) = true ∧ D.shp (.int j) = true then some (vb (!D.eqv (.int i) (.int j))) else none) = _
  rw [if_pos ⟨rfl, rfl⟩, eqv_ints]

mutual
/-- no bools in it -/
def D.nb : D → Bool
  | .bl _ => false | .lst l => nbAll l | .tup l => nbAll l | .dic _ _ => false | .ins _ _ => false
  | .non => true | .int _ => true | .str _ => true
def nbAll : List D → Bool
  | [] => true | d :: l => d.nb && nbAll l
end
mutual
theorem D.eqv_eq : ∀ {d e : D}, d.nb = true → e.nb = true → PyData.eqv d.py e.py = true → d = e
  | .non, e, _, h, g => by cases e <;> first | rfl | (simp [D.py, PyData.eqv] at g; done) | (simp [D.nb] at h; done)
  | .bl b, _, h, _, _ => by simp [D.nb] at h
  | .int i, e, _, h, g => by
    cases e with
    | int j => simp [D.py, PyData.eqv] at g; rw [g]
    | bl b => simp [D.nb] at h
    | dic l => simp [D.nb] at h
    | ins c l => simp [D.nb] at h
    | _ => simp [D.py, PyData.eqv] at g
  | .str i, e, _, h, g => by
    cases e with
    | str j => simp [D.py, PyData.eqv] at g; rw [g]
    | bl b => simp [D.nb] at h
    | dic l => simp [D.nb] at h
    | ins c l => simp [D.nb] at h
    | _ => simp [D.py, PyData.eqv] at g
  | .lst i, e, h', h, g => by
    cases e with
    | lst j =>
      simp only [D.py, PyData.eqv] at g
      rw [eqvAll_eq (by simpa [D.nb] using h') (by simpa [D.nb] using h) g]
    | bl b => simp [D.nb] at h
    | dic l => simp [D.nb] at h
    | ins c l => simp [D.nb] at h
    | _ => simp [D.py, PyData.eqv] at g
  | .tup i, e, h', h, g => by
    cases e with
    | tup j =>
      simp only [D.py, PyData.eqv] at g
      rw [eqvAll_eq (by simpa [D.nb] using h') (by simpa [D.nb] using h) g]
    | bl b => simp [D.nb] at h
    | dic l => simp [D.nb] at h
    | ins c l => simp [D.nb] at h
    | _ => simp [D.py, PyData.eqv] at g
  | .dic _ l, _, h, _, _ => by simp [D.nb] at h
  | .ins c l, _, h, _, _ => by simp [D.nb] at h
theorem eqvAll_eq : ∀ {l k : List D}, nbAll l = true → nbAll k = true → PyData.eqvAll (pyAll l) (pyAll k) = true → l = k
  | [], [], _, _, _ => rfl
  | [], _ :: _, _, _, g => by simp [pyAll, PyData.eqvAll] at g
  | _ :: _, [], _, _, g => by simp [pyAll, PyData.eqvAll] at g
  | d :: l, e :: k, h, h', g => by
    unfold nbAll at h h'
    rw [Bool.and_eq_true] at h h'
    simp only [pyAll, PyData.eqvAll, Bool.and_eq_true] at g
    rw [D.eqv_eq h.1 h'.1 g.1, eqvAll_eq h.2 h'.2 g.2]
end
theorem eqv_iff {d e : D} (h : d.nb = true) (h' : e.nb = true) (hf : d.flat = true) : d.eqv e = true ↔ d = e :=
  ⟨D.eqv_eq h h', fun g => by subst g; exact D.eqv_refl d hf⟩
theorem nb_dnat (l : List Nat) : (D.lst (dnat l)).nb = true := by
  simp only [D.nb]
  induction l with
  | nil => rfl
  | cons a l ih => simp only [dnat_cons, nbAll, D.nb, ih, Bool.and_true]
theorem flat_dnat (l : List Nat) : (D.lst (dnat l)).flat = true := by
  simp only [D.flat]
  induction l with
  | nil => rfl
  | cons a l ih => simp only [dnat_cons, flatAll, D.flat, ih, Bool.and_true]
theorem dnat_inj {l k : List Nat} (h : dnat l = dnat k) : l = k := by
  induction l generalizing k with
  | nil => cases k with
    | nil => rfl
    | cons b k => cases h
  | cons a l ih => cases k with
    | nil => cases h
    | cons b k =>
      rw [dnat_cons, dnat_cons] at h
      injection h with h1 h2
      injection h1 with h1
      rw [ih h2, Int.ofNat_inj.mp h1]
theorem eqv_dnat {l k : List Nat} : D.eqv (.lst (dnat l)) (.lst (dnat k)) = decide (l = k) := by
  by_cases h : l = k
  · subst h
    rw [decide_eq_true rfl]
    exact D.eqv_refl _ (flat_dnat l)
  · rw [decide_eq_false h]
    cases q : D.eqv (.lst (dnat l)) (.lst (dnat k)) with
    | false => rfl
    | true =>
      have := (eqv_iff (nb_dnat l) (nb_dnat k) (flat_dnat l)).mp q
      injection this with this
      exact absurd (dnat_inj this) h
/-! ### sorted -/
theorem sortI_is {l l' : List Int} (p : l'.Perm l) (s : l'.Pairwise (· ≤ ·)) : sortI l = l' := by
  unfold sortI
  have p2 : (l.mergeSort fun a b => decide (a ≤ b)).Perm l := List.mergeSort_perm l _
  have s2 : (l.mergeSort fun a b => decide (a ≤ b)).Pairwise fun a b => decide (a ≤ b) = true := List.pairwise_mergeSort (le := fun a b => decide (a ≤ b)) (fun a b c h1 h2 => by simp at *; omega) (fun a b => by simp; omega) l
  exact (List.Perm.eq_of_pairwise (le := (· ≤ ·)) (fun a b _ _ h1 h2 => by omega) s (s2.imp fun h => by simpa using h) (p.trans p2.symm)).symm
theorem intsOf_dnat : ∀ l : List Nat, intsOf (dnat l) = some (l.map fun (i : Nat) => (i : Int))
  | [] => rfl
  | a :: l => by
    rw [dnat_cons, intsOf, intsOf_dnat l]
    rfl
theorem dints_nat (l : List Nat) : dints (l.map fun (i : Nat) => (i : Int)) = dnat l := by
  unfold dints dnat
  rw [List.map_map]
  rfl
theorem range_sorted (n : Nat) : (List.range n).Pairwise (· ≤ ·) := List.pairwise_lt_range.imp fun h => Nat.le_of_lt h
theorem e_sorted' {p : Bool} {m : Nat} {l l' : List Nat} (h : l'.Perm l) (hs : l'.Pairwise (· ≤ ·)) (hn : l.length < 64) : kSorted [⟨p, m, .lst (dnat l)⟩] = some ⟨false, 1, .lst (dnat l')⟩ := by
  unfold kSorted
  show ((intsOf (dnat l)).bind fun bs => if bs.length < 64 then some (⟨false, 1, .lst (dints (sortI bs))⟩ : VV) else none) = _
  rw [intsOf_dnat, Option.bind_some, if_pos (by rw [List.length_map]; exact hn)]
  rw [sortI_is (l' := l'.map fun (i : Nat) => (i : Int)) (h.map _) (List.pairwise_map.mpr (hs.imp fun h => by omega)), dints_nat]
theorem e_sorted {p : Bool} {m n : Nat} {l : List Nat} (h : l.Perm (List.range n)) (hn : n < 64) : kSorted [⟨p, m, .lst (dnat l)⟩] = some ⟨false, 1, .lst (dnat (List.range n))⟩ :=
  e_sorted' h.symm (range_sorted n) (by rw [h.length_eq, List.length_range]; exact hn)
theorem e_listRange' {p : Bool} {m : Nat} {n : Nat} (h : n ≤ 16777216) : kRange [⟨p, m, .int n⟩] = some ⟨false, 1, .lst (dnat (List.range n))⟩ := by
  rw [e_listRange (by omega) (by omega), rng_dnat]
/-! ### lists of numbers, of lists of numbers, compared -/
/-- may be compared, so deep -/
structure Shp (j : Nat) (d : D) : Prop where
  fl : d.flat = true
  cl : d.py.canLay0 = true
  dp : d.py.depth ≤ j
theorem Shp.shp {j : Nat} {d : D} (h : Shp j d) (hj : j ≤ 64 := by decide) : d.shp = true := by
  unfold D.shp PySem.SeqAt.shaped
  rw [h.fl, h.cl, Bool.true_and, Bool.true_and]
  exact decide_eq_true (Nat.le_trans h.dp hj)
theorem Shp.int {i : Int} : Shp 0 (.int i) := ⟨rfl, rfl, Nat.le_refl _⟩
theorem Shp.bl {i : Bool} : Shp 0 (.bl i) := ⟨rfl, rfl, Nat.le_refl _⟩
theorem Shp.non : Shp 0 .non := ⟨rfl, rfl, Nat.le_refl _⟩
theorem Nice.toShp {k j : Nat} {d : D} (h : Nice k j d) : Shp j d := ⟨h.fl, h.cl, h.dp⟩
theorem Shp.le {j j' : Nat} {d : D} (h : Shp j d) (hj : j ≤ j') : Shp j' d := ⟨h.fl, h.cl, Nat.le_trans h.dp hj⟩
theorem shpAll {j : Nat} : ∀ {l : List D}, (∀ d ∈ l, Shp j d) → flatAll l = true ∧ PyData.canLayAll0 (pyAll l) = true ∧ PyData.depthAll (pyAll l) ≤ j
  | [], _ => ⟨rfl, rfl, Nat.zero_le _⟩
  | d :: l, h => by
    obtain ⟨a1, a2, a3⟩ := h d (List.mem_cons_self ..)
    obtain ⟨b1, b2, b3⟩ := shpAll (l := l) fun e he => h e (List.mem_cons_of_mem _ he)
    refine ⟨by unfold flatAll; simp [a1, b1], ?_, ?_⟩
    · simp only [pyAll, PyData.canLayAll0, a2, b2, Bool.and_true]
    · simp only [pyAll, PyData.depthAll]; omega
theorem Shp.lst {j : Nat} {l : List D} (h : ∀ d ∈ l, Shp j d) : Shp (j + 1) (.lst l) := by
  obtain ⟨b1, b2, b3⟩ := shpAll h
  refine ⟨by unfold D.flat; exact b1, ?_, ?_⟩
  · simp only [D.py, PyData.canLay0, b2]
  · simp only [D.py, PyData.depth]; omega
theorem Shp.tup {j : Nat} {l : List D} (h : ∀ d ∈ l, Shp j d) : Shp (j + 1) (.tup l) := by
  obtain ⟨b1, b2, b3⟩ := shpAll h
  refine ⟨by unfold D.flat; exact b1, ?_, ?_⟩
  · simp only [D.py, PyData.canLay0, b2]
  · simp only [D.py, PyData.depth]; omega
/-- a list of numbers -/
abbrev dn (l : List Nat) : D := .lst (dnat l)
theorem Shp.dn (l : List Nat) : Shp 1 (dn l) := Shp.lst fun d hd => by
  unfold dnat at hd
  obtain ⟨i, _, rfl⟩ := List.mem_map.mp hd
  exact .int
/-- a list of lists of numbers -/
abbrev dnn (l : List (List Nat)) : D := .lst (l.map dn)
theorem Shp.dnn (l : List (List Nat)) : Shp 2 (dnn l) := Shp.lst fun d hd => by
  obtain ⟨i, _, rfl⟩ := List.mem_map.mp hd
  exact .dn i
@[simp] theorem shp_dn (l : List Nat) : D.shp (.lst (dnat l)) = true := (Shp.dn l).shp
@[simp] theorem shp_dnn (l : List (List Nat)) : D.shp (.lst (l.map dn)) = true := (Shp.dnn l).shp
@[simp] theorem shp_int (i : Int) : D.shp (.int i) = true := (rfl)
@[simp] theorem shp_non : D.shp .non = true := (rfl)
@[simp] theorem shp_bl (b : Bool) : D.shp (.bl b) = true := (rfl)
theorem e_eqDn {p q : Bool} {m n : Nat} {l k : List Nat} : kEq ⟨p, m, .lst (dnat l)⟩ ⟨q, n, .lst (dnat k)⟩ = some (vb (decide (l = k))) := by
  show (if D.shp (dn l) = true ∧ D.shp (dn k) = true then some (vb (D.eqv (dn l) (dn k))) else none) = _
  rw [if_pos ⟨shp_dn l, shp_dn k⟩, eqv_dnat]
theorem e_neDn {p q : Bool} {m n : Nat} {l k : List Nat} : kNe ⟨p, m, .lst (dnat l)⟩ ⟨q, n, .lst (dnat k)⟩ = some (vb (!decide (l = k))) := by
  show (if D.shp (dn l) = true ∧ D.shp (dn k) = true then some (vb (!D.eqv (dn l) (dn k))) else none) = _
  rw [if_pos ⟨shp_dn l, shp_dn k⟩, eqv_dnat]
theorem find_dnat {x : Nat} : ∀ {l : List Nat}, x ∈ l → (dnat l).findIdx? (fun z => z.eqv (.int x)) = some (l.idxOf x)
  | [], h => by cases h
  | a :: l, h => by
    rw [dnat_cons, List.findIdx?_cons, eqv_ints]
    by_cases e : a = x
    · subst e
      rw [decide_eq_true rfl, if_pos rfl, List.idxOf_cons_self]
    · rw [decide_eq_false (by omega), if_neg (by decide), find_dnat (l := l) ((List.mem_cons.mp h).resolve_left fun z => e z.symm), List.idxOf_cons, beq_eq_false_iff_ne.mpr e]
      rfl
theorem e_index {p q : Bool} {m n : Nat} {l : List Nat} {x : Nat} (h : x ∈ l) : kIndex ⟨p, m, .lst (dnat l)⟩ [⟨q, n, .int x⟩] = some (vi (l.idxOf x : Nat)) := by
  unfold kIndex
  simp only [shp_dn, shp_int, and_self, if_true, find_dnat h]
theorem any_dnat {x : Nat} {l : List Nat} : ((dnat l).any fun z => z.eqv (.int x)) = decide (x ∈ l) := by
  induction l with
  | nil => rfl
  | cons a l ih =>
    rw [dnat_cons, List.any_cons, ih, eqv_ints]
    by_cases e : a = x
    · subst e; simp
    · rw [decide_eq_false (by omega : ¬ (a : Int) = (x : Int)), Bool.false_or]
      congr 1
      rw [List.mem_cons]
      exact propext ⟨.inr, fun h => h.resolve_left fun z => e z.symm⟩
theorem e_in {p q : Bool} {m n : Nat} {l : List Nat} {x : Nat} : kIn ⟨p, m, .int x⟩ ⟨q, n, .lst (dnat l)⟩ = some (vb (decide (x ∈ l))) := by
  unfold kIn
  simp only [shp_dn, shp_int, and_self, if_true, any_dnat]
theorem e_notin {p q : Bool} {m n : Nat} {l : List Nat} {x : Nat} : kNotIn ⟨p, m, .int x⟩ ⟨q, n, .lst (dnat l)⟩ = some (vb (!decide (x ∈ l))) := by
  unfold kNotIn
  simp only [shp_dn, shp_int, and_self, if_true, any_dnat]
@[simp] theorem ok_match {α : Type} {b : Bool} : (if b = true then (true : Bool) else false) = b := by cases b <;> rfl
/-! ### displays -/
theorem minM_imm : ∀ {xs : List VV}, (∀ x ∈ xs, x.d.imm = true) → minM xs = none
  | [], _ => rfl
  | x :: xs, h => by
    unfold minM
    rw [if_pos (h x (List.mem_cons_self ..)), minM_imm fun y hy => h y (List.mem_cons_of_mem _ hy)]
theorem kLst_imm {xs : List VV} (h : ∀ x ∈ xs, x.d.imm = true) (hn : xs.length ≤ lim) : kLst xs = some ⟨false, 1, .lst (xs.map VV.d)⟩ := by
  unfold kLst dmode
  rw [minM_imm h, if_pos]
  refine ⟨?_, hn⟩
  rw [List.all_eq_true]
  intro x hx
  unfold VV.stable
  rw [h x hx, Bool.or_true]
theorem minM_same {n : Nat} : ∀ {xs : List VV}, xs ≠ [] → (∀ x ∈ xs, x.d.imm = false ∧ x.m = n) → minM xs = some n
  | [], h, _ => absurd rfl h
  | [x], _, h => by
    obtain ⟨h1, h2⟩ := h x (List.mem_cons_self ..)
    unfold minM
    rw [h1, if_neg (by decide), h2]
    rfl
  | x :: y :: xs, _, h => by
    obtain ⟨h1, h2⟩ := h x (List.mem_cons_self ..)
    have ih := minM_same (n := n) (xs := y :: xs) (by simp) fun z hz => h z (List.mem_cons_of_mem _ hz)
    unfold minM
    rw [h1, if_neg (by decide), ih, h2]
    simp
theorem kLst_own {n : Nat} {xs : List VV} (h0 : xs ≠ []) (h : ∀ x ∈ xs, x.d.imm = false ∧ x.m = n ∧ x.b = false) (hn : xs.length ≤ lim) : kLst xs = some ⟨false, n + 1, .lst (xs.map VV.d)⟩ := by
  unfold kLst dmode
  rw [minM_same h0 (n := n) fun x hx => ⟨(h x hx).1, (h x hx).2.1⟩, if_pos]
  refine ⟨?_, hn⟩
  rw [List.all_eq_true]
  intro x hx
  unfold VV.stable
  rw [(h x hx).2.2]
  rfl
/-- a comprehension of numbers -/
theorem kLst_nats {xs : List Nat} {m : Nat} (hn : xs.length ≤ lim) : kLst (xs.map fun (i : Nat) => (⟨false, m, .int i⟩ : VV)) = some ⟨false, 1, .lst (dnat xs)⟩ := by
  rw [kLst_imm (fun x hx => by obtain ⟨i, _, rfl⟩ := List.mem_map.mp hx; rfl) (by rw [List.length_map]; exact hn), List.map_map]
  rfl
/-- a comprehension whose items are had without changes -/
theorem compL_map {α : Type} {own : List Nat} {g : MG} {e : M} {f : α → D} {k : α → VV} : ∀ (xs : List α) (ρ : Env) (acc : List VV), (∀ x ∈ xs, ∃ ρ1, g ⟨false, 0, f x⟩ ρ = .nx ρ1 ∧ e ρ1 = .ok (k x) none ∧ (k x).stable = true) → compL own g yes e (xs.map f) ρ acc = .ok (acc ++ xs.map k) none
  | [], ρ, acc, _ => by
    rw [List.map_nil]
    unfold compL
    rw [List.map_nil, List.append_nil]
  | d :: ds, ρ, acc, h => by
    obtain ⟨ρ1, h1, h2, h3⟩ := h d (List.mem_cons_self ..)
    have ih := compL_map (own := own) (g := g) (e := e) (f := f) ds ρ (acc ++ [k d]) fun d hd => h d (List.mem_cons_of_mem _ hd)
    rw [List.map_cons]
    unfold compL
    rw [h1]
    have hy : yes ρ1 = .ok true none := rfl
    simp only [hy, now_none, h2, h3, if_true, thn_none, Option.map_none, R.aft_none, ih]
    rw [List.map_cons, List.append_assoc]
    rfl
theorem compL_nat {own : List Nat} {g : MG} {e : M} {k : Nat → Nat} {ρ : Env} (l : List Nat) (h : ∀ x ∈ l, ∃ ρ1, g (vi x) ρ = .nx ρ1 ∧ e ρ1 = .ok (vi (k x)) none) : compL own g yes e (dnat l) ρ [] = .ok ((l.map k).map fun (i : Nat) => vi i) none := by
  unfold dnat
  rw [compL_map (k := fun x => vi (k x)) l ρ [] fun x hx => by
    obtain ⟨ρ1, h1, h2⟩ := h x hx
    exact ⟨ρ1, h1, h2, rfl⟩]
  rw [List.nil_append, List.map_map]
  rfl
theorem dnat_all (l : List Nat) : (dnat l).all D.imm = true := by
  unfold dnat
  rw [List.all_map]
  exact List.all_eq_true.mpr fun _ _ => rfl
@[simp] theorem plain_dn {l : List Nat} : VV.plain ⟨false, 1, .lst (dnat l)⟩ = true := by
  unfold VV.plain
  simp [dnat_all]
@[simp] theorem e_neNil {p q : Bool} {m n : Nat} : kNe ⟨p, m, .lst []⟩ ⟨q, n, .lst []⟩ = some (vb false) := e_neSame (d := .lst []) (shp_dn [])
@[simp] theorem e_eqNil {p q : Bool} {m n : Nat} : kEq ⟨p, m, .lst []⟩ ⟨q, n, .lst []⟩ = some (vb true) := e_eqSame (d := .lst []) (shp_dn [])
theorem dnat_eraseIdx (l : List Nat) (i : Nat) : (dnat l).eraseIdx i = dnat (l.eraseIdx i) := by
  unfold dnat
  rw [List.eraseIdx_eq_take_drop_succ, List.eraseIdx_eq_take_drop_succ, List.map_append, List.map_take, List.map_drop]
theorem perm_erase {α : Type} {l : List α} {i : Nat} (h : i < l.length) : (l[i] :: l.eraseIdx i).Perm l := by
  rw [List.eraseIdx_eq_take_drop_succ]
  refine List.perm_middle.symm.trans ?_
  rw [← List.drop_eq_getElem_cons h, List.take_append_drop]
/-- a comprehension whose items change something: P, by the turn; not empty -/
theorem compL_eff1 {own : List Nat} {g : MG} {e : M} (P : Nat → Env → List VV → Prop) (ds : List D) (ρ : Env) (hne : ds ≠ [])
    (hs : ∀ i d ρ acc, ds[i]? = some d → P i ρ acc → ∃ ρ1 x ρ2, g ⟨false, 0, d⟩ ρ = .nx ρ1 ∧ e ρ1 = .ok x (some ρ2) ∧ x.stable = true ∧ P (i + 1) (wipeE own ρ2) (acc ++ [x])) (h : P 0 ρ []) :
    ∃ xs ρ', compL own g yes e ds ρ [] = .ok xs (some ρ') ∧ P ds.length ρ' xs := by
  cases ds with
  | nil => exact absurd rfl hne
  | cons d ds =>
    obtain ⟨ρ1, x, ρ2, h1, h2, h3, h4⟩ := hs 0 d ρ [] rfl h
    obtain ⟨xs, o, h5, h6⟩ := compL_eff (own := own) (g := g) (e := e) (P := fun i ρ acc => P i ρ acc) ds 1 (wipeE own ρ2) ([] ++ [x]) (fun i d' ρ acc hi hp => by
      have := hs (i + 1) d' ρ acc (by simpa using hi) (by rw [show i + 1 = 1 + i by omega]; exact hp)
      rw [show i + 1 + 1 = 1 + i + 1 by omega] at this
      exact this) h4
    refine ⟨xs, now o (wipeE own ρ2), ?_, by rw [List.length_cons, show ds.length + 1 = 1 + ds.length by omega]; exact h6⟩
    unfold compL
    rw [h1]
    have hy : yes ρ1 = .ok true none := (rfl)
    simp only [hy, now_none, h2, h3, if_true, thn_some, Option.map_some, Option.map_none, now_some, h5, R.aft_ok, none_thn]
    cases o <;> rfl
/-- a loop that goes through -/
theorem forL_inv0 {g : MG} {b : MS} (P : Nat → Env → Prop) (ds : List D) (ρ : Env) (hs : ∀ i d ρ, ds[i]? = some d → P i ρ → ∃ ρ', (g ⟨false, 0, d⟩ ρ).seq b = .nx ρ' ∧ P (i + 1) ρ') (h : P 0 ρ) : ∃ ρ', forL g b ds ρ = .nx ρ' ∧ P ds.length ρ' := by
  have := forL_inv (g := g) (b := b) (P := P) ds 0 ρ (fun i d ρ hi hp => by
    rw [Nat.zero_add] at hp ⊢
    exact hs i d ρ hi hp) h
  rw [Nat.zero_add] at this
  exact this
/-- [d] * n -/
theorem e_rep {m : Nat} {d : D} {n k : Nat} {p : Bool} (h : n ≤ 1000000) : kMul ⟨false, m + 1, .lst [d]⟩ ⟨p, k, .int n⟩ = some ⟨false, 1, .lst (List.replicate n d)⟩ := by
  unfold kMul
  simp only
  rw [if_pos (by
    refine ⟨⟨by first | trivial | rfl, by show 0 < m + 1; omega⟩, by omega, by omega, ?_⟩
    rw [lim_num, List.length_singleton]
    omega)]
  rw [Int.toNat_natCast, List.flatten_replicate_singleton]
theorem dnat_replicate (n a : Nat) : dnat (List.replicate n a) = List.replicate n (.int a) := List.map_replicate ..
theorem rng_get {a b : Int} {k : Nat} {d : D} (h : (rng a b)[k]? = some d) : d = .int (a + k) ∧ k < (b - a).toNat := by
  unfold rng at h
  rw [List.getElem?_map] at h
  by_cases hk : k < (b - a).toNat
  · rw [List.getElem?_range hk] at h
    exact ⟨(Option.some.inj h).symm, hk⟩
  · rw [List.getElem?_eq_none (by rw [List.length_range]; omega)] at h
    cases h
theorem rng_len {a b : Int} : (rng a b).length = (b - a).toNat := by unfold rng; simp
/-! ### displays, written out -/
@[simp] theorem kLst_nil : kLst [] = some ⟨false, 1, .lst []⟩ := (rfl)
@[simp] theorem kLst_cons {x : VV} {xs : List VV} : kLst (x :: xs) = if (x :: xs).all VV.stable = true ∧ (x :: xs).length ≤ 16777216 then some ⟨false, match minM (x :: xs) with | none => 1 | some n => n + 1, .lst ((x :: xs).map VV.d)⟩ else none := (rfl)
@[simp] theorem kTup_nil : kTup [] = some ⟨false, 1, .tup []⟩ := (rfl)
@[simp] theorem kTup_cons {x : VV} {xs : List VV} : kTup (x :: xs) = if (x :: xs).all VV.stable = true ∧ (x :: xs).length ≤ 16777216 then some ⟨false, match minM (x :: xs) with | none => 1 | some n => n + 1, .tup ((x :: xs).map VV.d)⟩ else none := (rfl)
@[simp] theorem minM_nil : minM [] = none := (rfl)
@[simp] theorem minM_cons {x : VV} {xs : List VV} : minM (x :: xs) = if x.d.imm = true then minM xs else some (match minM xs with | none => x.m | some n => min x.m n) := (rfl)
/-- a loop that looks for what is not right -/
theorem forL_search {g : MG} {b : MS} {P : Env → Prop} {good : D → Bool} {r : PV} : ∀ (ds : List D) (ρ : Env),
    (∀ d ∈ ds, ∀ ρ, P ρ → (good d = true → ∃ ρ', (g ⟨false, 0, d⟩ ρ).seq b = .nx ρ' ∧ P ρ') ∧ (good d = false → ∃ ρ', (g ⟨false, 0, d⟩ ρ).seq b = .ret r ρ' ∧ P ρ')) → P ρ →
    (ds.all good = true → ∃ ρ', forL g b ds ρ = .nx ρ' ∧ P ρ') ∧ (ds.all good = false → ∃ ρ', forL g b ds ρ = .ret r ρ' ∧ P ρ')
  | [], ρ, _, h => ⟨fun _ => ⟨ρ, rfl, h⟩, fun z => by cases z⟩
  | d :: ds, ρ, hs, h => by
    obtain ⟨h1, h2⟩ := hs d (List.mem_cons_self ..) ρ h
    cases e : good d with
    | true =>
      obtain ⟨ρ1, e1, p1⟩ := h1 e
      obtain ⟨i1, i2⟩ := forL_search (good := good) (r := r) ds ρ1 (fun d hd => hs d (List.mem_cons_of_mem _ hd)) p1
      unfold forL
      rw [e1]
      refine ⟨fun z => i1 ?_, fun z => i2 ?_⟩
      · rw [List.all_cons, e, Bool.true_and] at z; exact z
      · rw [List.all_cons, e, Bool.true_and] at z; exact z
    | false =>
      obtain ⟨ρ1, e1, p1⟩ := h2 e
      unfold forL
      rw [e1]
      refine ⟨fun z => ?_, fun z => ⟨ρ1, rfl, p1⟩⟩
      rw [List.all_cons, e] at z
      cases z
/-- a comprehension with a test -/
theorem compL_filt {α : Type} {own : List Nat} {g : MG} {cs : MT} {e : M} {f : α → D} {c : α → Bool} {k : α → VV} : ∀ (xs : List α) (ρ : Env) (acc : List VV),
    (∀ x ∈ xs, ∃ ρ1, g ⟨false, 0, f x⟩ ρ = .nx ρ1 ∧ cs ρ1 = .ok (c x) none ∧ (c x = true → e ρ1 = .ok (k x) none ∧ (k x).stable = true)) →
    compL own g cs e (xs.map f) ρ acc = .ok (acc ++ (xs.filter c).map k) none
  | [], ρ, acc, _ => by
    rw [List.map_nil]
    unfold compL
    rw [List.filter_nil, List.map_nil, List.append_nil]
  | d :: ds, ρ, acc, h => by
    obtain ⟨ρ1, h1, h2, h3⟩ := h d (List.mem_cons_self ..)
    rw [List.map_cons]
    unfold compL
    rw [h1]
    cases hc : c d with
    | false =>
      have ih := compL_filt (own := own) (g := g) (cs := cs) (e := e) (f := f) (c := c) (k := k) ds ρ acc fun d hd => h d (List.mem_cons_of_mem _ hd)
      simp only [h2, hc, Option.map_none, now_none, R.aft_none, ih]
      rw [List.filter_cons, if_neg (by rw [hc]; simp)]
    | true =>
      obtain ⟨h4, h5⟩ := h3 hc
      have ih := compL_filt (own := own) (g := g) (cs := cs) (e := e) (f := f) (c := c) (k := k) ds ρ (acc ++ [k d]) fun d hd => h d (List.mem_cons_of_mem _ hd)
      simp only [h2, hc, now_none, h4, h5, if_true, thn_none, Option.map_none, R.aft_none, ih]
      rw [List.filter_cons, if_pos hc, List.map_cons, List.append_assoc]
      rfl
theorem cut_to {α : Type} {l : List α} {t : Nat} : cutD l none (some (t : Int)) = l.take t := by
  unfold cutD six
  simp only [List.drop_zero, Nat.sub_zero]
  rw [if_neg (by omega), Int.toNat_natCast]
  by_cases h : t ≤ l.length
  · rw [Nat.min_eq_left h]
  · rw [Nat.min_eq_right (by omega), List.take_length, List.take_of_length_le (by omega)]
theorem cut_from {α : Type} {l : List α} {t : Nat} : cutD l (some (t : Int)) none = l.drop t := by
  unfold cutD six
  simp only
  rw [if_neg (by omega), Int.toNat_natCast]
  by_cases h : t ≤ l.length
  · rw [Nat.min_eq_left h, List.take_of_length_le (by rw [List.length_drop]; omega)]
  · rw [Nat.min_eq_right (by omega), Nat.sub_self, List.take_zero, List.drop_eq_nil_of_le (by omega)]
theorem cut_all {α : Type} {l : List α} : cutD l none none = l := by
  unfold cutD six
  simp
theorem at_mem {l : List D} {i : Nat} (h : i < l.length) : ∃ d, atD l (i : Int) = some d ∧ d ∈ l := ⟨l[i], at_nat h, List.getElem_mem h⟩
theorem e_sl {p : Bool} {m : Nat} {l : List D} {lo hi : Option Int} (h : VV.open ⟨p, m, .lst l⟩) : kSl ⟨p, m, .lst l⟩ lo hi = some ⟨false, 1, .lst (cutD l lo hi)⟩ := if_pos h
theorem e_addL {p q : Bool} {m n : Nat} {l k : List D} (h1 : VV.open ⟨p, m, .lst l⟩) (h2 : VV.open ⟨q, n, .lst k⟩) (h : l.length + k.length ≤ 16777216) : kAdd ⟨p, m, .lst l⟩ ⟨q, n, .lst k⟩ = some ⟨false, 1, .lst (l ++ k)⟩ := if_pos ⟨h1, h2, h⟩
theorem e_rev {p : Bool} {m : Nat} {l : List D} (h : VV.open ⟨p, m, .lst l⟩) : kRev ⟨p, m, .lst l⟩ = some ⟨false, 1, .lst l.reverse⟩ := if_pos h
theorem e_list {p : Bool} {m : Nat} {l : List D} (h : VV.open ⟨p, m, .lst l⟩) : kList [⟨p, m, .lst l⟩] = some ⟨false, 1, .lst l⟩ := if_pos h
theorem e_tuple {p : Bool} {m : Nat} {l : List D} (h : VV.open ⟨p, m, .lst l⟩) : kTuple [⟨p, m, .lst l⟩] = some ⟨false, 1, .tup l⟩ := if_pos h
theorem cut_mid {α : Type} {l : List α} {a b : Nat} (ha : a ≤ l.length) (hb : b ≤ l.length) : cutD l (some (a : Int)) (some (b : Int)) = (l.drop a).take (b - a) := by
  unfold cutD six
  simp only
  rw [if_neg (by omega), if_neg (by omega), Int.toNat_natCast, Int.toNat_natCast, Nat.min_eq_left ha, Nat.min_eq_left hb]
theorem dnat_take (l : List Nat) (k : Nat) : (dnat l).take k = dnat (l.take k) := List.map_take.symm
theorem dnat_drop (l : List Nat) (k : Nat) : (dnat l).drop k = dnat (l.drop k) := List.map_drop.symm
theorem dnat_reverse (l : List Nat) : (dnat l).reverse = dnat l.reverse := List.map_reverse.symm
@[simp] theorem e_ixv2 {ρ : Env} {i : Nat} {b : M} : ixv2 i b ρ = match look ρ i with
  | none => .no
  | some _ => (b ρ).bind ρ fun y ρ1 => match look ρ1 i with
    | some (m, d) => .ofO (kIx ⟨true, m, d⟩ y)
    | none => .no := (rfl)
theorem cut_last {α : Type} {l : List α} : cutD l none (some (-1)) = l.take (l.length - 1) := by
  unfold cutD six
  simp only [List.drop_zero, Nat.sub_zero]
  rw [if_pos (by decide)]
  congr 1
  omega
end Vs
set_option maxHeartbeats 4000000
/-! exception objects as values -/
namespace Vs
open PySem (Str PyData)
/-- of the class c, without fields; with fields -/
def xv0 (c : Str) : D := .ins "#" [("", .str c), ("", .lst [])]
def xv1 (c : Str) (fs : List (Str × D)) : D := .ins "#" [("", .str c), ("", .lst [.ins "@" (("", .non) :: fs)])]
def kXv0 (c : Str) (x : VV) : Option VV := some ⟨false, 9, xv0 c⟩
def kXv1 (c f : Str) (x : VV) : Option VV := if x.stable = true then some ⟨false, 9, xv1 c [(f, x.d)]⟩ else none
def kXv2 (c f g : Str) : List VV → Option VV
  | [x, y] => if x.d.imm = true ∧ y.d.imm = true then some ⟨false, 9, xv1 c [(g, y.d), (f, x.d)]⟩ else none
  | _ => none
def xvC : D → Option Str
  | .ins c [(n, .str k), (n2, .lst [])] => if c = "#" ∧ n = "" ∧ n2 = "" then some k else none
  | .ins c [(n, .str k), (n2, .lst [.ins c2 ((n3, .non) :: _)])] => if c = "#" ∧ n = "" ∧ n2 = "" ∧ c2 = "@" ∧ n3 = "" then some k else none
  | _ => none
def xvF : D → Option (Str × List (Str × D))
  | .ins c [(n, .str k), (n2, .lst [.ins c2 ((n3, .non) :: fs)])] => if c = "#" ∧ n = "" ∧ n2 = "" ∧ c2 = "@" ∧ n3 = "" then some (k, fs) else none
  | _ => none
/-- isinstance(x, C): of the classes in ys it is one, of those in ns it is not -/
def kIsX (ys ns : List Str) (x : VV) : Option VV := (xvC x.d).bind fun c => if c ∈ ys then some (vb true) else if c ∈ ns then some (vb false) else none
/-- x.f, x of one of the classes cs -/
def kFldX (cs : List Str) (f : Str) (x : VV) : Option VV := (xvF x.d).bind fun p => if p.1 ∈ cs then (p.2.lookup f).map fun y => ⟨false, 0, y⟩ else none
end Vs
set_option maxHeartbeats 4000000
/-! exception objects as values: the rules -/
namespace Vs
open PySem PySem.Spec PyProof.Rows L2
section
variable {X : Cx}
/-- what makes an exception gives it -/
def tXv (t : L2.St → Hp → XK → Prop) : TE := fun σ H Q => t σ H fun cls d H' => ∀ a, H' a = none → Q (.ref a) (upd H' a (.ext (exvP cls d a)))
theorem pe_of_mk {e : Expr} {t : L2.St → Hp → XK → Prop} (he : L2N.PMk X e t) : PE X e (tXv t) := by
  refine ⟨fun pins s σ H Q I h => ?_⟩
  refine wpAny_mono (he pins s σ H _ I h) (fun u s1 hu => ?_) fun _ _ x => x
  obtain ⟨a, oe, vs, sI, H', cls, d, rfl, J, k, hne, ha, hz, hd, h1, na, os, ag, _, q⟩ := hu
  have ob : ObjOk X.prog X.w (upd H' a (.ext (exvP cls d a))) s1.heap a (.ext (exvP cls d a)) := ⟨⟨oe, vs, ha, hz.zc, hd⟩, ⟨oe, ha⟩, fun h1 h2 ⟨o, v, z1, z2, z3⟩ kk => ⟨o, v, kk _ z1, z2, z3⟩⟩
  have J2 := J.laidN (t' := s1.toks) k hne na ob
  exact ⟨.ref a, _, ⟨J2.ok, os.trans J2.os, ag, J2.base, J2.loc, J2.cell, J2.free, J2.freeC, J2.pin, J2.hok, J2.len⟩, rfl, q a na⟩
end
section
variable {ct : Str → Addr} {X : Cx}
/-- C(e), C without an own __init__ -/
theorem s_xv0 {C : Addr} {c : Str} {a : Expr} {ga : M} {p pos : Pos} (q : PySem.W.excIn X.K C [.type "ValueError", .type "Exception", .type "BaseException", .type "object"] "ValueError.__new__" = true) (gC : X.mg c = some (.ref C)) (kC : PySem.W.keepIn X.K (.ref C) = true) (hg : Gl X c) (ha : SE ct X a ga)
    (hs : starEach [a] X.env = (false, eval a X.env) :: starEach [] X.env := by rfl) (hdb : (c == ("__debug__" : Str)) = false := by decide) : SE ct X (.Call (.Name c p) [a] [] pos) (one ga (kXv0 (cOf C))) := by
  refine run_one (r := fun _ H1 Q => ∀ a, H1 a = none → Q (.ref a) (upd H1 a (ExO (.ref C) a))) ha (fun pa => pe_exc1 PySem.F.excBase_ValueError q gC kC hg pa hs hdb) fun S H x v f z Q h ok h1 hQ => ?_
  unfold kXv0 at h1
  obtain rfl := Option.some.inj h1
  intro b hb
  refine hQ _ _ S [b] (new_grow ok hb (fun _ z => z) (fun _ => .inl) (fun y hy => .inr (List.mem_singleton.mp hy))) ?_ (new_okp ok.nil hb trivial)
  rw [VOk.own]
  exact .gx1 (m := 8) upd_same (.inl ⟨C, rfl, rfl, fun h ⟨oe, vs, z1, z2, z3, _⟩ => ⟨oe, vs, z1, z2, z3⟩⟩) (.nil _)
/-- C(e), C's own __init__ keeps e as its field -/
theorem s_xv1 {C fI : Addr} {c fld : Str} {a : Expr} {ga : M} {p pos : Pos} {k : Nat} (T : XCls X.prog X.K C fI fld) (hr : Room k X.A) (gC : X.mg c = some (.ref C)) (hsup : X.mg "super" = none) (hg : Gl X c) (ha : SE ct X a ga)
    (hdb : (c == ("__debug__" : Str)) = false := by decide) (he : starEach (a :: []) X.env = (false, eval a X.env) :: starEach [] X.env := by rfl) (hpl : (backTo pos (starEach [] X.env)).any (·.1) = false := by rfl) : SE ct X (.Call (.Name c p) [a] [] pos) (one ga (kXv1 (cOf C) fld)) := by
  refine run_one (r := fun v H1 Q => ∃ v', [v] = [v'] ∧ ∀ d, H1 d = none → ∀ a, upd H1 d (.xd [(fld, v')]) a = none → Q (.ref a) (upd (upd H1 d (.xd [(fld, v')])) a (.ext (exvP (.ref C) (some d) a)))) ha (fun pa => pe_of_mk (pmk_x T hr (pa_cons pa pa_nil he) hg gC hsup hdb he hpl)) fun S H x v f z Q h ok h1 hQ => ?_
  unfold kXv1 at h1
  by_cases hs : x.stable = true
  · rw [if_pos hs] at h1
    obtain rfl := Option.some.inj h1
    obtain ⟨S', u1, u2, r, k2⟩ := froze (F := []) (h.stab hs) (by rw [List.append_nil]; exact ok)
    refine ⟨v, rfl, fun d hd b hb => ?_⟩
    have sm : Same H (upd H d (.xd [(fld, v)])) := same_upd hd
    have hbd : b ≠ d := fun z => by rw [z, upd_same] at hb; cases hb
    have sm2 : Same (upd H d (.xd [(fld, v)])) (upd (upd H d (.xd [(fld, v)])) b (.ext (exvP (.ref C) (some d) b))) := same_upd hb
    have hbn : H b = none := by rw [upd_ne hbd] at hb; exact hb
    have k3 : Ok (fun y => S' y ∨ y = d) (upd H d (.xd [(fld, v)])) [] := ⟨List.nodup_nil, by simp, by simp, fun y z => z.elim (fun w => (k2.same sm).tr y w) fun w => by rw [w, upd_same]; exact fun z => nomatch z⟩
    refine hQ _ _ (fun y => S' y ∨ y = d) [b] ⟨sm.trans sm2, fun y z => .inl (u1 y z), fun y z => ?_, fun y hy => .inr (by rw [List.mem_singleton.mp hy]; exact hbn)⟩ ?_ (new_okp k3 hb trivial)
    · rcases z with z | rfl
      · exact (u2 y z).imp id .inl
      · exact .inr (.inr hd)
    · rw [VOk.own]
      refine .gx1 (m := 8) upd_same (.inr (.inl ⟨C, d, rfl, rfl, fun h z => z⟩)) (.cons (f := []) (g := []) (.xd0 (fs := [(fld, x.d)]) (ws := [v]) ?_ (.inr rfl) (.cons (f := []) (g := []) ?_ (.nil _))) (.nil _))
      · rw [upd_ne hbd.symm, upd_same]
        rfl
      · exact (r.more fun y hy => .inl hy).same (sm.trans sm2)
  · rw [if_neg hs] at h1
    cases h1
end
/-! ### what is known of such a value -/
section
variable {X : Cx} {pins : List (Addr × Obj)} {σ : L2.St} {H : Hp} {s : Shared} {S : Addr → Prop} {v : V} {m : Nat} {dd : D} {f : List Addr} {c : Str} {fs : List (Str × D)}
theorem xd_at {d : Addr} {c2 n3 : Str} (h2 : c2 = "@") (h3 : n3 = "") (r : Rp X.K S H m (.ref d) (.ins c2 ((n3, .non) :: fs)) f) : ∃ ws, H d = some (.xd ((fs.map (·.1)).zip ws)) ∧ RpAll X.K S H 0 ws (fs.map (·.2)) [] := by
  subst h2 h3
  generalize hv : V.ref d = v at r
  generalize hdd : D.ins "@" (("", .non) :: fs) = e at r
  cases r with
  | xd0 h1 h2 h3 =>
    cases hv
    obtain ⟨_, e2⟩ := D.ins.inj hdd
    have e3 := (List.cons.inj e2).2
    subst e3
    exact ⟨_, h1, h3⟩
  | ob0 _ _ oo => obtain ⟨_, rfl⟩ := D.ins.inj hdd; simp [objD] at oo
  | ob1 _ oo => obtain ⟨_, rfl⟩ := D.ins.inj hdd; simp [objD] at oo
  | exn0 => simp at hdd
  | exn1 => simp at hdd
  | anyR => simp at hdd
  | gx0 => simp at hdd; exact absurd hdd.1 (by decide)
  | gx1 => simp at hdd; exact absurd hdd.1 (by decide)
  | _ => cases hdd
theorem xv_inst {a C : Addr} {dx : Option Addr} {φ : Heap → Prop} (I : Inv X pins σ H s) (h : H a = some (.ext φ)) (hφ : ∀ h, φ h → exvP (.ref C) dx a h) (hd : ∀ d, dx = some d → ∃ o, s.heap.get? d = some o) : ∃ ox od, PySem.W.InstAt s.heap a ox C od ∧ ∀ d, dx = some d → ∃ o, od = some o ∧ s.heap.get? d = some o := by
  have ob : ObjOk X.prog X.w H s.heap a (.ext φ) := I.hok a _ h
  obtain ⟨oe, vs, h1, hz, hf⟩ := hφ _ ob.1
  have nc : PySem.W.notCls oe = true := by unfold PySem.W.notCls; rw [hf] <;> rfl
  cases dx with
  | none => exact ⟨oe, none, ⟨h1, hz.1, nc, by rw [hz.2]; trivial⟩, fun d z => by cases z⟩
  | some d =>
    obtain ⟨o, ho⟩ := hd d rfl
    exact ⟨oe, some o, ⟨h1, hz.1, nc, by rw [hz.2]; exact ho⟩, fun d' z => by cases z; exact ⟨o, rfl, ho⟩⟩
theorem xvC_some (q : xvC dd = some c) : ∃ ds, dd = .ins "#" [("", .str c), ("", .lst ds)] ∧ (ds = [] ∨ ∃ fs, ds = [.ins "@" (("", .non) :: fs)]) := by
  unfold xvC at q
  split at q
  · split at q
    · rename_i h
      obtain ⟨rfl, rfl, rfl⟩ := h
      cases q
      exact ⟨_, rfl, .inl rfl⟩
    · cases q
  · split at q
    · rename_i h
      obtain ⟨rfl, rfl, rfl, rfl, rfl⟩ := h
      cases q
      exact ⟨_, rfl, .inr ⟨_, rfl⟩⟩
    · cases q
  · cases q
/-- the two shapes -/
theorem gx_of {ds : List D} (r : Rp X.K S H m v (.ins "#" [("", .str c), ("", .lst ds)]) f) : ∃ a φ C vs m' g, v = .ref a ∧ c = cOf C ∧ H a = some (.ext φ) ∧ GX a (.str c) vs φ ∧ RpAll X.K S H m' vs ds g := by
  generalize hdd : D.ins "#" [("", .str c), ("", .lst ds)] = e at r
  cases r with
  | gx0 h1 _ h3 h4 =>
    simp at hdd
    obtain ⟨e1, e2⟩ := hdd
    subst e1 e2
    rcases h3 with ⟨C, e, rest⟩ | ⟨C, d, e, rest⟩ | ⟨_, _, _, _, _, _, e, _⟩
    · cases e; exact ⟨_, _, C, _, _, _, rfl, rfl, h1, .inl ⟨C, rfl, rest⟩, h4⟩
    · cases e; exact ⟨_, _, C, _, _, _, rfl, rfl, h1, .inr (.inl ⟨C, d, rfl, rest⟩), h4⟩
    · cases e
  | gx1 h1 h3 h4 =>
    simp at hdd
    obtain ⟨e1, e2⟩ := hdd
    subst e1 e2
    rcases h3 with ⟨C, e, rest⟩ | ⟨C, d, e, rest⟩ | ⟨_, _, _, _, _, _, e, _⟩
    · cases e; exact ⟨_, _, C, _, _, _, rfl, rfl, h1, .inl ⟨C, rfl, rest⟩, h4⟩
    · cases e; exact ⟨_, _, C, _, _, _, rfl, rfl, h1, .inr (.inl ⟨C, d, rfl, rest⟩), h4⟩
    · cases e
  | ob0 _ _ oo => obtain ⟨_, rfl⟩ := D.ins.inj hdd; simp [objD] at oo
  | ob1 _ oo => obtain ⟨_, rfl⟩ := D.ins.inj hdd; simp [objD] at oo
  | exn0 => simp at hdd
  | exn1 => simp at hdd
  | anyR => simp at hdd
  | xd0 => simp at hdd
  | _ => cases hdd
theorem xv_at (I : Inv X pins σ H s) (r : Rp X.K S H m v dd f) (q : xvC dd = some c) : ∃ a C ox od, v = .ref a ∧ c = cOf C ∧ PySem.W.InstAt s.heap a ox C od := by
  obtain ⟨ds, rfl, hds⟩ := xvC_some q
  obtain ⟨a, φ, C, vs, m', g, rfl, rfl, h1, h3, h4⟩ := gx_of r
  rcases h3 with ⟨C', e, rfl, hφ⟩ | ⟨C', d, e, rfl, hφ⟩ | ⟨_, _, _, _, _, _, e, _⟩
  · cases cOf_inj (D.str.inj e)
    obtain ⟨ox, od, J, _⟩ := xv_inst I h1 hφ (fun d z => by cases z)
    exact ⟨a, C, ox, od, rfl, rfl, J⟩
  · cases cOf_inj (D.str.inj e)
    obtain ⟨ox, od, J, _⟩ := xv_inst I h1 hφ (fun d' z => by
      cases z
      rcases hds with rfl | ⟨fs, rfl⟩
      · cases h4
      · cases h4 with
        | cons h5 _ =>
          obtain ⟨ws, hx, _⟩ := xd_at rfl rfl h5
          have hxd : ObjOk X.prog X.w H s.heap d (.xd _) := I.hok d _ hx
          obtain ⟨mA, hns, _⟩ := hxd
          obtain ⟨o, ho, _⟩ := lookIn_ns hns
          exact ⟨o, ho⟩)
    exact ⟨a, C, ox, od, rfl, rfl, J⟩
  · cases e
theorem xvF_some (q : xvF dd = some (c, fs)) : dd = xv1 c fs := by
  unfold xvF at q
  split at q
  · split at q
    · rename_i h
      obtain ⟨rfl, rfl, rfl, rfl, rfl⟩ := h
      cases q
      rfl
    · cases q
  · cases q
theorem xv_fld (I : Inv X pins σ H s) (r : Rp X.K S H m v dd f) (q : xvF dd = some (c, fs)) : ∃ a C ox o d ws, v = .ref a ∧ c = cOf C ∧ PySem.W.InstAt s.heap a ox C (some o) ∧ s.heap.get? d = some o ∧ H d = some (.xd ((fs.map (·.1)).zip ws)) ∧ RpAll X.K S H 0 ws (fs.map (·.2)) [] := by
  obtain rfl := xvF_some q
  obtain ⟨a, φ, C, vs, m', g, rfl, rfl, h1, h3, h4⟩ := gx_of r
  rcases h3 with ⟨C', e, rfl, hφ⟩ | ⟨C', d, e, rfl, hφ⟩ | ⟨_, _, _, _, _, _, e, _⟩
  · cases h4
  · cases cOf_inj (D.str.inj e)
    cases h4 with
    | cons h5 _ =>
      obtain ⟨ws, hx, hws⟩ := xd_at rfl rfl h5
      have hxd : ObjOk X.prog X.w H s.heap d (.xd _) := I.hok d _ hx
      obtain ⟨mA, hns, _⟩ := hxd
      obtain ⟨o, ho, _⟩ := lookIn_ns hns
      obtain ⟨ox, od, J, hod⟩ := xv_inst I h1 hφ (fun d' z => by cases z; exact ⟨o, ho⟩)
      obtain ⟨o', e1, e2⟩ := hod d rfl
      rw [ho] at e2
      cases e2
      exact ⟨a, C, ox, o, d, ws, rfl, rfl, e1 ▸ J, ho, hx, hws⟩
  · cases e
end
/-! ### isinstance(e, C), e.f -/
section
variable {ct : Str → Addr} {X : Cx}
/-- what stands of the classes: b: whether they are of cv -/
def XIs (K : PySem.W.Frag) (cv : Value) (ys ns : List Str) : Prop := (∀ c ∈ ys, ∃ C, c = cOf C ∧ XKn K C ∧ PySem.W.kitOne K (.ref C) cv = some true) ∧ ∀ c ∈ ns, c ∉ ys → ∃ C, c = cOf C ∧ XKn K C ∧ PySem.W.kitOne K (.ref C) cv = some false
def rIsX (K : PySem.W.Frag) (c : V) (ys ns : List Str) : List V → Hp → VK → Prop := fun xs H Q => ∃ v S m f dd k b, xs = [v, c] ∧ Rp K S H m v dd f ∧ xvC dd = some k ∧ (b = true ∧ k ∈ ys ∨ b = false ∧ k ∈ ns ∧ k ∉ ys) ∧ Q (.bl b) H
theorem call_isXV {cv : Value} {c : V} {ys ns : List Str} (hy : XIs X.K cv ys ns) (hc : ∀ u, RelV c u → u = cv) : CallR X (.builtin "isinstance") (rIsX X.K c ys ns) := by
  intro pins s σ H xs us Q I r h
  obtain ⟨v, S, m, f, dd, k, b, rfl, rp, q, hb, hq⟩ := h
  obtain ⟨a, C, ox, od, rfl, rfl, J⟩ := xv_at I rp q
  have key : XKn X.K C ∧ PySem.W.kitOne X.K (.ref C) cv = some b := by
    rcases hb with ⟨rfl, hk⟩ | ⟨rfl, hk⟩
    · obtain ⟨C', e, h⟩ := hy.1 _ hk
      cases cOf_inj e
      exact h
    · obtain ⟨C', e, h⟩ := hy.2 _ hk.1 hk.2
      cases cOf_inj e
      exact h
  cases r with
  | cons rx rr =>
    cases rr with
    | cons rt rr =>
      cases rr
      cases rx
      have ec := hc _ rt
      subst ec
      exact PySem.W.kia_one (kitx_held key.1) I.kIn ⟨od, J⟩ key.2 (fun z => nomatch z) fun tk => ⟨.bl b, H, I.kept (t' := tk) fun _ _ z => z, rfl, hq⟩
theorem isX_op {K : PySem.W.Frag} {c : V} {ys ns : List Str} : Op1 K (fun x H Q => rIsX K c ys ns [x, c] H Q) (kIsX ys ns) := fun S H x v f z Q h ok h1 hQ => by
  unfold kIsX at h1
  cases q : xvC x.d with
  | none => rw [q] at h1; cases h1
  | some k =>
    rw [q] at h1
    have h1 : (if k ∈ ys then some (vb true) else if k ∈ ns then some (vb false) else none) = some z := h1
    obtain ⟨g, r⟩ := h.rp
    by_cases hy : k ∈ ys
    · rw [if_pos hy] at h1
      obtain rfl := Option.some.inj h1
      exact ⟨v, S, _, _, _, k, true, rfl, r, q, .inl ⟨rfl, hy⟩, hQ _ _ S [] Grow.refl (by rw [VOk.own]; exact .bl _ _) ok.nil⟩
    · rw [if_neg hy] at h1
      by_cases hn : k ∈ ns
      · rw [if_pos hn] at h1
        obtain rfl := Option.some.inj h1
        exact ⟨v, S, _, _, _, k, false, rfl, r, q, .inr ⟨rfl, hn, hy⟩, hQ _ _ S [] Grow.refl (by rw [VOk.own]; exact .bl _ _) ok.nil⟩
      · rw [if_neg hn] at h1
        cases h1
theorem s_isX {C : Addr} {cn : Str} {a : Expr} {ga : M} {ys ns : List Str} {p1 p2 pos : Pos} (hy : XIs X.K (.ref C) ys ns) (hg : Gl X "isinstance") (hm : X.mg "isinstance" = none) (hgc : Gl X cn) (hmc : X.mg cn = some (.ref C)) (ha : SE ct X a ga) (hdb : (cn == ("__debug__" : Str)) = false := by decide)
    (he : starEach (a :: [.Name cn p2]) X.env = (false, eval a X.env) :: starEach [.Name cn p2] X.env := by rfl)
    (he2 : starEach [.Name cn p2] X.env = (false, eval (.Name cn p2) X.env) :: starEach [] X.env := by rfl)
    (hpl : (backTo pos (starEach [.Name cn p2] X.env)).any (·.1) = false := by rfl) : SE ct X (.Call (.Name "isinstance" p1) [a, .Name cn p2] [] pos) (one ga (kIsX ys ns)) :=
  run_one (r := fun x H Q => rIsX X.K (.ref C) ys ns [x, .ref C] H Q) ha (fun pa => pe_callB (call_isXV hy (c := .ref C) (cv := .ref C) (fun u r => r)) hg hm PyProof.Rows.boot_isinstance (pa_cons pa (pa_cons (pe_glob hgc hmc (v := .ref C) rfl hdb) pa_nil he2) he) (by decide) (by decide) he hpl) isX_op
theorem s_isXB {cn : Str} {tn : String} {a : Expr} {ga : M} {ys ns : List Str} {p1 p2 pos : Pos} (hy : XIs X.K (.type tn) ys ns) (hg : Gl X "isinstance") (hm : X.mg "isinstance" = none) (hgc : Gl X cn) (hmc : X.mg cn = none) (hv : bootBuiltins cn = some (.type tn)) (hnn : cn ≠ "__name__") (ha : SE ct X a ga) (hdb : (cn == ("__debug__" : Str)) = false := by decide)
    (he : starEach (a :: [.Name cn p2]) X.env = (false, eval a X.env) :: starEach [.Name cn p2] X.env := by rfl)
    (he2 : starEach [.Name cn p2] X.env = (false, eval (.Name cn p2) X.env) :: starEach [] X.env := by rfl)
    (hpl : (backTo pos (starEach [.Name cn p2] X.env)).any (·.1) = false := by rfl) : SE ct X (.Call (.Name "isinstance" p1) [a, .Name cn p2] [] pos) (one ga (kIsX ys ns)) :=
  run_one (r := fun x H Q => rIsX X.K (.ty tn) ys ns [x, .ty tn] H Q) ha (fun pa => pe_callB (call_isXV hy (c := .ty tn) (cv := .type tn) (fun u r => r)) hg hm PyProof.Rows.boot_isinstance (pa_cons pa (pa_cons (pe_bltn hgc hmc hv (by rfl) hnn hdb) pa_nil he2) he) (by decide) (by decide) he hpl) isX_op
def XFl (K : PySem.W.Frag) (fld : Str) (l : List Str) : Prop := ∀ c ∈ l, ∃ C, c = cOf C ∧ XKn K C ∧ PySem.W.findIn K (.ref C) fld = some none
def tFldX (cs : List Str) (fld : Str) (te : TE) : TE := fun σ H Q => te σ H fun v H1 => ∃ S m f dd k fs, Rp X.K S H1 m v dd f ∧ xvF dd = some (k, fs) ∧ k ∈ cs ∧ ∀ ws, RpAll X.K S H1 0 ws (fs.map (·.2)) [] → ∃ u, ((fs.map (·.1)).zip ws).lookup fld = some u ∧ Q u H1
theorem pe_fldX {a : Expr} {cs : List Str} {fld : Str} {te : TE} {pos : Pos} (hf : XFl X.K fld cs) (he : PE X a te) (hb : attributeBase a fld X.env (eval a X.env) = eval a X.env := by rfl) :
    PE X (.Attribute a fld pos) (tFldX (X := X) cs fld te) := by
  refine ⟨fun pins s σ H Q I h => ?_⟩
  refine attr_of hb (L2.thn (he.run pins s σ H _ I h) fun u s1 hu => ?_)
  obtain ⟨v, H1, I1, rx, S, m, f, dd, k, fs, rp, q, hk, hq⟩ := hu
  obtain ⟨a', C, ox, o, d, ws, rfl, rfl, J, ho, hx, hws⟩ := xv_fld I1 rp q
  obtain ⟨C', e, T, hno⟩ := hf _ hk
  cases cOf_inj e
  obtain rfl : u = Value.ref a' := rx
  obtain ⟨w, hlw, hQ⟩ := hq ws hws
  have hxd : ObjOk X.prog X.w H1 s1.heap d (.xd _) := I1.hok d _ hx
  obtain ⟨mA, hns, hr⟩ := hxd
  obtain ⟨od', ho', hlk⟩ := lookIn_ns hns
  rw [ho] at ho'
  cases ho'
  obtain ⟨uu, hu, ru⟩ := RelO.some_of (v := w) (o := mA fld) (by rw [← hlw]; exact hr fld)
  exact HandSPX.exc_get I1.kIn J T.ga T.gg T.be (PySem.W.findObj_own T.hd hno rfl (by rw [hlk, hu])) (handed_of ru) ⟨w, H1, I1.tok _, ru, hQ⟩
theorem s_fldX {a : Expr} {ga : M} {cs : List Str} {fld : Str} {pos : Pos} (hf : XFl X.K fld cs) (ha : SE ct X a ga) (hb : attributeBase a fld X.env (eval a X.env) = eval a X.env := by rfl) : SE ct X (.Attribute a fld pos) (one ga (kFldX cs fld)) := by
  refine run_one (r := fun v H1 Q => ∃ S m f dd k fs, Rp X.K S H1 m v dd f ∧ xvF dd = some (k, fs) ∧ k ∈ cs ∧ ∀ ws, RpAll X.K S H1 0 ws (fs.map (·.2)) [] → ∃ u, ((fs.map (·.1)).zip ws).lookup fld = some u ∧ Q u H1) ha (fun pa => pe_fldX hf pa hb) fun S H x v f z Q h ok h1 hQ => ?_
  unfold kFldX at h1
  cases q : xvF x.d with
  | none => rw [q] at h1; cases h1
  | some p =>
    obtain ⟨k, fs⟩ := p
    rw [q] at h1
    have h1 : (if k ∈ cs then (fs.lookup fld).map (fun y => (⟨false, 0, y⟩ : VV)) else none) = some z := h1
    by_cases hk : k ∈ cs
    · rw [if_pos hk] at h1
      cases q2 : fs.lookup fld with
      | none => rw [q2] at h1; cases h1
      | some y =>
        rw [q2] at h1
        obtain rfl := Option.some.inj h1
        obtain ⟨g, r⟩ := h.rp
        refine ⟨S, _, _, _, k, fs, r, q, hk, fun ws hws => ?_⟩
        obtain ⟨u, e1, e2⟩ := lookup_zip hws q2
        exact ⟨u, e1, hQ _ _ S [] Grow.refl (by rw [VOk.own]; exact e2) ok.nil⟩
    · rw [if_neg hk] at h1
      cases h1
end
/-! ### by keyword, with two fields -/
section
variable {ct : Str → Addr} {X : Cx} {a e : Expr} {ga gs : MA} {kws : List Keyword}
/-- the values of keywords -/
structure SKA (ct : Str → Addr) (X : Cx) (kws : List Keyword) (g : MA) : Prop where
  run : ∀ W, Takes X W → ∃ t, PK X kws t ∧ ∀ S F H σ ρ Q, EnvRp X.K S H σ ρ F → Ok S H F → Good X.K ct (VsOk X.K) W S F H σ ρ (g ρ) Q → t σ H Q
end
section
variable {ct : Str → Addr} {X : Cx} {a e : Expr} {ga : M} {gs : MA} {kws : List Keyword}
theorem ska_nil : SKA ct X [] (args []) := ⟨fun W tk => ⟨_, pk_nil, fun S F H σ ρ Q E ok G => G [] S F H [] Fit.nil .nil E ok⟩⟩
theorem ska_cons {nm : Option Str} {kpos : Pos} (ha : SE ct X a ga) {as : List M} (hb : SKA ct X kws (args as)) : SKA ct X (⟨nm, a, kpos⟩ :: kws) (args (ga :: as)) := by
  refine ⟨fun W tk => ?_⟩
  obtain ⟨ta, pa, ra⟩ := ha.run W tk
  obtain ⟨tb, pb, rb⟩ := hb.run W tk
  refine ⟨_, pk_cons pa pb, fun S F H σ ρ Q E ok G => ra S F H σ ρ _ E ok ?_⟩
  unfold args at G
  refine good_bind G fun x o1 v S1 F1 H1 f _ t1 h1 E1 k1 G => ?_
  refine rb S1 F1 H1 σ _ _ E1 k1.tail ?_
  cases qb : args as (now o1 ρ) with
  | no => rw [qb] at G; exact G
  | ex x ρ1 =>
    rw [qb] at G
    intro C d S2 F2 H2 st E2 k2 hx
    exact G C d S2 F2 H2 ((t1.step.less fun b hb => List.mem_append_right _ hb).trans st) E2 k2 hx
  | ok y o2 =>
    rw [qb, R.nxt_ok] at G
    intro u S2 F2 H2 g t2 h2 E2 k2
    split at G
    · rename_i hs
      have k3 : Ok S2 H2 ((f ++ g) ++ F2) := Fit.both k1 t2 k2
      have h1' : VOk X.K S2 H2 x v f := by
        cases o2 with
        | none =>
          obtain ⟨e, w1, _, rfl, _⟩ := t2
          exact (h1.same e).more w1
        | some _ => exact h1.step (t2.step.less fun b hb => hb) k1.tail k1.apart (by simpa using hs)
      rw [aft_aft] at G
      refine G (v :: u) S2 F2 H2 (f ++ g) ?_ (.cons h1' h2) ?_ k3
      · exact t1.thn k1 t2 (fun b hb => by rw [List.mem_append] at hb; exact hb.imp id .inl) (Same.refl _)
      · rw [thn_none, now_thn]
        exact E2
    · exact G.elim
theorem run_kargs {r : List V → Hp → VK → Prop} {k : List VV → Option VV} (ha : SKA ct X kws gs) (mk : ∀ {t}, PK X kws t → PE X e (fun σ H Q => t σ H fun vs H1 => r vs H1 Q)) (ho : OpN X.K r k) : SE ct X e (argsk gs k) := by
  refine ⟨fun W tk => ?_⟩
  obtain ⟨ta, pa, ra⟩ := ha.run W tk
  refine ⟨_, mk pa, fun S F H σ ρ Q E ok G => ra S F H σ ρ _ E ok ?_⟩
  refine good_bind G fun x o v S1 F1 H1 f _ t1 h1 E1 k1 G => ?_
  exact fin_rule (g := f) (t := fun Q => r v H1 Q) t1 E1 k1 (fun z hz Q hq => ho S1 H1 x v f z Q h1 k1.head hz hq) G

theorem xv1_op {K : PySem.W.Frag} {C : Addr} {fld : Str} : ∀ (S : Addr → Prop) (H : Hp) (x : VV) (v : V) (f : List Addr) (z : VV) (Q : VK), VOk K S H x v f → Ok S H f → kXv1 (cOf C) fld x = some z → (∀ w H' S' h, Grow S H f S' h H' → VOk K S' H' z w h → Ok S' H' h → Q w H') →
    ∀ d, H d = none → ∀ a, upd H d (.xd [(fld, v)]) a = none → Q (.ref a) (upd (upd H d (.xd [(fld, v)])) a (.ext (exvP (.ref C) (some d) a))) := fun S H x v f z Q h ok h1 hQ => by
  unfold kXv1 at h1
  by_cases hs : x.stable = true
  · rw [if_pos hs] at h1
    obtain rfl := Option.some.inj h1
    obtain ⟨S', u1, u2, r, k2⟩ := froze (F := []) (h.stab hs) (by rw [List.append_nil]; exact ok)
    intro d hd b hb
    have sm : Same H (upd H d (.xd [(fld, v)])) := same_upd hd
    have hbd : b ≠ d := fun z => by rw [z, upd_same] at hb; cases hb
    have sm2 : Same (upd H d (.xd [(fld, v)])) (upd (upd H d (.xd [(fld, v)])) b (.ext (exvP (.ref C) (some d) b))) := same_upd hb
    have hbn : H b = none := by rw [upd_ne hbd] at hb; exact hb
    have k3 : Ok (fun y => S' y ∨ y = d) (upd H d (.xd [(fld, v)])) [] := ⟨List.nodup_nil, by simp, by simp, fun y z => z.elim (fun w => (k2.same sm).tr y w) fun w => by rw [w, upd_same]; exact fun z => nomatch z⟩
    refine hQ _ _ (fun y => S' y ∨ y = d) [b] ⟨sm.trans sm2, fun y z => .inl (u1 y z), fun y z => ?_, fun y hy => .inr (by rw [List.mem_singleton.mp hy]; exact hbn)⟩ ?_ (new_okp k3 hb trivial)
    · rcases z with z | rfl
      · exact (u2 y z).imp id .inl
      · exact .inr (.inr hd)
    · rw [VOk.own]
      refine .gx1 (m := 8) upd_same (.inr (.inl ⟨C, d, rfl, rfl, fun h z => z⟩)) (.cons (f := []) (g := []) (.xd0 (fs := [(fld, x.d)]) (ws := [v]) ?_ (.inr rfl) (.cons (f := []) (g := []) ?_ (.nil _))) (.nil _))
      · rw [upd_ne hbd.symm, upd_same]
        rfl
      · exact (r.more fun y hy => .inl hy).same (sm.trans sm2)
  · rw [if_neg hs] at h1
    cases h1
/-- C(f = e) -/
theorem s_xv1k {C fI : Addr} {c fld : Str} {p pos kpos : Pos} {k : Nat} (T : XCls X.prog X.K C fI fld) (hK : XKw X.K fI fld) (hr : Room k X.A) (gC : X.mg c = some (.ref C)) (hsup : X.mg "super" = none) (hg : Gl X c) (ha : SE ct X a ga)
    (hdb : (c == ("__debug__" : Str)) = false := by decide) (hall : (backToKw pos (keywordEach [⟨some fld, a, kpos⟩] X.env)).all (·.1.isSome) = true := by rfl) (hks : (backToKw pos (keywordEach [⟨some fld, a, kpos⟩] X.env)).filterMap (·.1) = [fld] := by rfl) (hpl : ((backTo pos (starEach [] X.env)).any (·.1) || (backToKw pos (keywordEach [⟨some fld, a, kpos⟩] X.env)).any (·.1.isNone)) = false := by rfl) : SE ct X (.Call (.Name c p) [] [⟨some fld, a, kpos⟩] pos) (one ga (kXv1 (cOf C) fld)) := by
  refine run_one (r := fun v H1 Q => ∃ v', [v] = [v'] ∧ ∀ d, H1 d = none → ∀ a, upd H1 d (.xd [(fld, v')]) a = none → Q (.ref a) (upd (upd H1 d (.xd [(fld, v')])) a (.ext (exvP (.ref C) (some d) a)))) ha (fun pa => pe_of_mk (pmk_xk T hK hr (pk_cons pa pk_nil) hg gC hsup hdb hall hks hpl)) fun S H x v f z Q h ok h1 hQ => ⟨v, rfl, xv1_op S H x v f z Q h ok h1 hQ⟩
theorem xv2_op {K : PySem.W.Frag} {C : Addr} {fld gld : Str} : OpN K (fun vs H1 Q => ∃ v u, vs = [v, u] ∧ ∀ d, H1 d = none → ∀ a, upd H1 d (.xd [(gld, u), (fld, v)]) a = none → Q (.ref a) (upd (upd H1 d (.xd [(gld, u), (fld, v)])) a (.ext (exvP (.ref C) (some d) a)))) (kXv2 (cOf C) fld gld) := fun S H xs vs f z Q h ok h1 hQ => by
  unfold kXv2 at h1
  split at h1
  · rename_i x y
    obtain ⟨v, u, f1, f2, rfl, rfl, g1, g2⟩ := h.two
    split at h1
    · rename_i hi
      obtain rfl := Option.some.inj h1
      refine ⟨v, u, rfl, fun d hd b hb => ?_⟩
      obtain ⟨w1, r1⟩ := g1.rp
      obtain ⟨w2, r2⟩ := g2.rp
      have r1 := (r1.imm hi.1).2
      have r2 := (r2.imm hi.2).2
      have sm : Same H (upd H d (.xd [(gld, u), (fld, v)])) := same_upd hd
      have hbd : b ≠ d := fun z => by rw [z, upd_same] at hb; cases hb
      have sm2 : Same (upd H d (.xd [(gld, u), (fld, v)])) (upd (upd H d (.xd [(gld, u), (fld, v)])) b (.ext (exvP (.ref C) (some d) b))) := same_upd hb
      have hbn : H b = none := by rw [upd_ne hbd] at hb; exact hb
      have k3 : Ok (fun y => S y ∨ y = d) (upd H d (.xd [(gld, u), (fld, v)])) [] := ⟨List.nodup_nil, by simp, by simp, fun y z => z.elim (fun w => (ok.nil.same sm).tr y w) fun w => by rw [w, upd_same]; exact fun z => nomatch z⟩
      refine hQ _ _ (fun y => S y ∨ y = d) [b] ⟨sm.trans sm2, fun y z => .inl z, fun y z => ?_, fun y hy => .inr (by rw [List.mem_singleton.mp hy]; exact hbn)⟩ ?_ (new_okp k3 hb trivial)
      · rcases z with z | rfl
        · exact .inl z
        · exact .inr (.inr hd)
      · rw [VOk.own]
        refine .gx1 (m := 8) upd_same (.inr (.inl ⟨C, d, rfl, rfl, fun h z => z⟩)) (.cons (f := []) (g := []) (.xd0 (fs := [(gld, y.d), (fld, x.d)]) (ws := [u, v]) ?_ (.inr rfl) (.cons (f := []) (g := []) (r2 _ _ _) (.cons (f := []) (g := []) (r1 _ _ _) (.nil _)))) (.nil _))
        rw [upd_ne hbd.symm, upd_same]
        rfl
    · cases h1
  · cases h1
/-- C(a, b) -/
theorem s_xv2 {C fI : Addr} {c fld gld : Str} {b : Expr} {p pos : Pos} {k : Nat} (T : XCls2 X.prog X.K C fI fld gld) (hr : Room k X.A) (gC : X.mg c = some (.ref C)) (hsup : X.mg "super" = none) (hg : Gl X c) (ha : SA ct X [a, b] gs)
    (hdb : (c == ("__debug__" : Str)) = false := by decide) (he : starEach (a :: [b]) X.env = (false, eval a X.env) :: starEach [b] X.env := by rfl) (hpl : (backTo pos (starEach [b] X.env)).any (·.1) = false := by rfl) : SE ct X (.Call (.Name c p) [a, b] [] pos) (argsk gs (kXv2 (cOf C) fld gld)) :=
  run_args ha (fun pa => pe_of_mk (pmk_x2 T hr pa hg gC hsup hdb he hpl)) xv2_op
/-- C(f = a, g = b) -/
theorem s_xv2k {C fI : Addr} {c fld gld : Str} {p pos : Pos} {k : Nat} (T : XCls2 X.prog X.K C fI fld gld) (hr : Room k X.A) (gC : X.mg c = some (.ref C)) (hsup : X.mg "super" = none) (hg : Gl X c) (ha : SKA ct X kws gs)
    (hdb : (c == ("__debug__" : Str)) = false := by decide) (hall : (backToKw pos (keywordEach kws X.env)).all (·.1.isSome) = true := by rfl) (hks : (backToKw pos (keywordEach kws X.env)).filterMap (·.1) = [fld, gld] := by rfl) (hpl : ((backTo pos (starEach [] X.env)).any (·.1) || (backToKw pos (keywordEach kws X.env)).any (·.1.isNone)) = false := by rfl) : SE ct X (.Call (.Name c p) [] kws pos) (argsk gs (kXv2 (cOf C) fld gld)) :=
  run_kargs ha (fun pa => pe_of_mk (pmk_x2k T hr pa hg gC hsup hdb hall hks hpl)) xv2_op
end
end Vs
set_option maxHeartbeats 4000000
/-! exception objects as values: what the written part says of the classes -/
namespace Vs
open PySem PySem.Spec PyProof.Rows L2
theorem xclsk_mk {P : Program} {K : PySem.W.Frag} {C fI : Addr} {fld : Str} {st : Stmt} {msg : Str} {j : Nat} {p0 p1 p2 p3 p4 p5 p6 p7 p8 p9 : Pos} {nm q : Str} {N : Addr} {bs bm : List Value} {sn : List Str} {sub : List Value} {ab : Bool} {col : Option Bool} {dd : Option Addr} {k0 k1 k2 k3 k5 : Option Value}
    {oc doc pm ct ccl cl : Value} {od an cdd cld : Option Addr} {osl ccs csl : Array (Option Value)} {cc cda : Addr} {qual file : Str} {vs : Array Value} {tf : Tok} {ar : Arg}
    (hC : K.lookup C = some (excClassObj nm q C N bs bm true sn sub ab col dd k0 k1 k2 k3 k5 "ValueError.__new__")) (iC : PySem.W.findIn K (.ref C) "__init__" = some (some (.ref fI)))
    (lf : K.lookup fI = some ⟨oc, od, .func (PySem.W.ksFn "__init__" qual (defArgs st) (defBody st) (defScope st) .none .none doc pm an (.ref cda) ct cc), osl⟩)
    (lc : K.lookup cda = some ⟨ccl, cdd, .fields vs, ccs⟩) (ll : K.lookup cc = some ⟨cl, cld, .cell (some (.ref C)), csl⟩) (hbm : PySem.HandSPX.refsVE bm = true)
    (sa : PySem.W.findIn K (.ref C) "__setattr__" = some (some (.builtin "object.__setattr__"))) (no : PySem.W.findIn K (.ref C) fld = some none) (tI : PySem.W.typeIn K (.ref fI) = some (.type "function")) (kC : PySem.W.keepIn K (.ref C) = true)
    (exC : PySem.W.subIn K (.ref C) (.type "BaseException") = some true) (veC : PySem.W.subIn K (.ref C) (.type "ValueError") = some true) (tyC : PySem.W.typeIn K (.ref C) = some (.type "type")) (sf : PySem.W.mroIn K C (.ref C) = some true) (opq : PySem.W.nsIn K cStatics "thirdparty.any" = some none)
    (sup : PySem.W.ks_superIn K C C "__init__" = some (some (.builtin "ValueError.__init__"))) (hcd : PySem.W.codeIn K (.ref cda) qual = true) (hvs : vs[2]? = some (.str file tf)) (hfile : ((P.main.file : Str) == file) = true)
    (hb : defBody st = xiBody fld msg j p0 p1 p2 p3 p4 p5 p6 p7 p8 p9) (har : ((defArgs st).posonlyargs ++ (defArgs st).args).head? = some ar) (hs : ar.arg = "self")
    (s1 : (defScope st).names.lookup ("super" : Str) = some .globalImplicit) (s2 : (defScope st).names.lookup ("__class__" : Str) = some .free) (s3 : (defScope st).names.lookup ("self" : Str) = some .local) (s4 : (defScope st).names.lookup fld = some .local)
    (sc : ∀ x ∈ (defScope st).names, x.2 ≠ .cell) (sk : (defScope st).kind = .function) (sco : (defScope st).isCoroutine = false) (sg : (defScope st).isGenerator = false)
    (hbind : ∀ a b : Value, bindArgs (PySem.W.ksFn "__init__" qual (defArgs st) (defBody st) (defScope st) .none .none doc pm an (.ref cda) ct cc) ⟨[a, b], []⟩ = pure [(("self" : Str), a), (fld, b)])
    (hfs : (fld == ("self" : Str)) = false) (hfd : (fld == ("__debug__" : Str)) = false) (hl : (p2.endLine == p4.line) = true) (top : (P.main.scope.names.lookup ("super" : Str)).isSome = false)
    (hbindK : ∀ a b : Value, bindArgs (PySem.W.ksFn "__init__" qual (defArgs st) (defBody st) (defScope st) .none .none doc pm an (.ref cda) ct cc) ⟨[a], [(fld, b)]⟩ = pure [(("self" : Str), a), (fld, b)]) : XCls P K C fI fld ∧ XKw K fI fld := by
  rw [hb] at lf hbind hbindK
  refine ⟨⟨⟨nm, q, N, bs, bm, sn, sub, ab, col, dd, k0, k1, k2, k3, k5, hC, hbm⟩, sa, no, iC, tI, kC, exC, veC, tyC, sf, opq, sup,
    ⟨oc, od, doc, pm, an, ct, osl, cc, cda, defArgs st, defScope st, qual, msg, j, p0, p1, p2, p3, p4, p5, p6, p7, p8, p9, ar, ccl, cdd, vs, ccs, file, tf, cl, cld, csl, lf, hcd, lc, hvs, hfile, ll, har, hs, s1, s2, s3, s4, sc, sk, sco, sg, hbind, hfs, hfd, hl⟩, top⟩, fun oc2 od2 fd2 osl2 h a b => ?_⟩
  rw [lf] at h
  cases h
  exact hbindK a b
theorem xcls2_mk {P : Program} {K : PySem.W.Frag} {C fI : Addr} {fld gld : Str} {st : Stmt} {msg : Str} {j : Nat} {p0 p1 p2 p3 p4 p5 p6 p7 p8 p9 p10 p11 p12 p13 : Pos} {nm q : Str} {N : Addr} {bs bm : List Value} {sn : List Str} {sub : List Value} {ab : Bool} {col : Option Bool} {dd : Option Addr} {k0 k1 k2 k3 k5 : Option Value}
    {oc doc pm ct ccl cl : Value} {od an cdd cld : Option Addr} {osl ccs csl : Array (Option Value)} {cc cda : Addr} {qual file : Str} {vs : Array Value} {tf : Tok} {ar : Arg}
    (hC : K.lookup C = some (excClassObj nm q C N bs bm true sn sub ab col dd k0 k1 k2 k3 k5 "ValueError.__new__")) (iC : PySem.W.findIn K (.ref C) "__init__" = some (some (.ref fI)))
    (lf : K.lookup fI = some ⟨oc, od, .func (PySem.W.ksFn "__init__" qual (defArgs st) (defBody st) (defScope st) .none .none doc pm an (.ref cda) ct cc), osl⟩)
    (lc : K.lookup cda = some ⟨ccl, cdd, .fields vs, ccs⟩) (ll : K.lookup cc = some ⟨cl, cld, .cell (some (.ref C)), csl⟩) (hbm : PySem.HandSPX.refsVE bm = true)
    (sa : PySem.W.findIn K (.ref C) "__setattr__" = some (some (.builtin "object.__setattr__"))) (no : PySem.W.findIn K (.ref C) fld = some none) (no2 : PySem.W.findIn K (.ref C) gld = some none) (tI : PySem.W.typeIn K (.ref fI) = some (.type "function")) (kC : PySem.W.keepIn K (.ref C) = true)
    (exC : PySem.W.subIn K (.ref C) (.type "BaseException") = some true) (veC : PySem.W.subIn K (.ref C) (.type "ValueError") = some true) (tyC : PySem.W.typeIn K (.ref C) = some (.type "type")) (sf : PySem.W.mroIn K C (.ref C) = some true) (opq : PySem.W.nsIn K cStatics "thirdparty.any" = some none)
    (sup : PySem.W.ks_superIn K C C "__init__" = some (some (.builtin "ValueError.__init__"))) (hcd : PySem.W.codeIn K (.ref cda) qual = true) (hvs : vs[2]? = some (.str file tf)) (hfile : ((P.main.file : Str) == file) = true)
    (hb : defBody st = xiBody2 fld gld msg j p0 p1 p2 p3 p4 p5 p6 p7 p8 p9 p10 p11 p12 p13) (har : ((defArgs st).posonlyargs ++ (defArgs st).args).head? = some ar) (hs : ar.arg = "self")
    (s1 : (defScope st).names.lookup ("super" : Str) = some .globalImplicit) (s2 : (defScope st).names.lookup ("__class__" : Str) = some .free) (s3 : (defScope st).names.lookup ("self" : Str) = some .local) (s4 : (defScope st).names.lookup fld = some .local) (s5 : (defScope st).names.lookup gld = some .local)
    (sc : ∀ x ∈ (defScope st).names, x.2 ≠ .cell) (sk : (defScope st).kind = .function) (sco : (defScope st).isCoroutine = false) (sg : (defScope st).isGenerator = false)
    (hbind : ∀ a b c : Value, bindArgs (PySem.W.ksFn "__init__" qual (defArgs st) (defBody st) (defScope st) .none .none doc pm an (.ref cda) ct cc) ⟨[a, b, c], []⟩ = pure [(("self" : Str), a), (fld, b), (gld, c)])
    (hbindK : ∀ a b c : Value, bindArgs (PySem.W.ksFn "__init__" qual (defArgs st) (defBody st) (defScope st) .none .none doc pm an (.ref cda) ct cc) ⟨[a], [(fld, b), (gld, c)]⟩ = pure [(("self" : Str), a), (fld, b), (gld, c)])
    (hfs : (fld == ("self" : Str)) = false) (hfd : (fld == ("__debug__" : Str)) = false) (hgs : (gld == ("self" : Str)) = false) (hgd : (gld == ("__debug__" : Str)) = false) (hgf : (gld == fld) = false) (hl : (p2.endLine == p4.line) = true) (top : (P.main.scope.names.lookup ("super" : Str)).isSome = false) : XCls2 P K C fI fld gld := by
  rw [hb] at lf hbind hbindK
  exact ⟨⟨nm, q, N, bs, bm, sn, sub, ab, col, dd, k0, k1, k2, k3, k5, hC, hbm⟩, sa, no, no2, iC, tI, kC, exC, veC, tyC, sf, opq, sup,
    ⟨oc, od, doc, pm, an, ct, osl, cc, cda, defArgs st, defScope st, qual, msg, j, p0, p1, p2, p3, p4, p5, p6, p7, p8, p9, p10, p11, p12, p13, ar, ccl, cdd, vs, ccs, file, tf, cl, cld, csl, lf, hcd, lc, hvs, hfile, ll, har, hs, s1, s2, s3, s4, s5, sc, sk, sco, sg, hbind, hbindK, hfs, hfd, hgs, hgd, hgf, hl⟩, top⟩

/-- the classes kn; of each asked for, which are of it; of each field, which have it -/
def xvB (K : PySem.W.Frag) (kn : List Addr) (ask : List (Value × List Addr)) (fl : List (Str × List Addr)) : Bool :=
  kn.all (xkB K) && (ask.all (fun q => q.2.all (fun C => decide (C ∈ kn)) && kn.all fun C => decide (PySem.W.kitOne K (.ref C) q.1 = some (decide (C ∈ q.2)))) && fl.all fun q => q.2.all fun C => decide (C ∈ kn) && decide (PySem.W.findIn K (.ref C) q.1 = some none))
theorem xv_is {K : PySem.W.Frag} {kn : List Addr} {ask : List (Value × List Addr)} {fl : List (Str × List Addr)} (h : xvB K kn ask fl = true) (i : Nat) {q : Value × List Addr} (hq : ask[i]? = some q) : XIs K q.1 (q.2.map cOf) (kn.map cOf) := by
  unfold xvB at h
  simp only [Bool.and_eq_true, List.all_eq_true, decide_eq_true_eq] at h
  obtain ⟨h1, h2, _⟩ := h
  obtain ⟨h3, h4⟩ := h2 q (List.mem_of_getElem? hq)
  refine ⟨fun c hc => ?_, fun c hc hn => ?_⟩
  · obtain ⟨C, hC, rfl⟩ := List.mem_map.mp hc
    have hk := h3 C hC
    exact ⟨C, rfl, xkB_ok (h1 C hk), by rw [h4 C hk, decide_eq_true hC]⟩
  · obtain ⟨C, hC, rfl⟩ := List.mem_map.mp hc
    exact ⟨C, rfl, xkB_ok (h1 C hC), by rw [h4 C hC, decide_eq_false (fun z => hn (List.mem_map_of_mem z))]⟩
theorem xv_fl {K : PySem.W.Frag} {kn : List Addr} {ask : List (Value × List Addr)} {fl : List (Str × List Addr)} (h : xvB K kn ask fl = true) (i : Nat) {q : Str × List Addr} (hq : fl[i]? = some q) : XFl K q.1 (q.2.map cOf) := by
  unfold xvB at h
  simp only [Bool.and_eq_true, List.all_eq_true, decide_eq_true_eq] at h
  obtain ⟨h1, _, h2⟩ := h
  intro c hc
  obtain ⟨C, hC, rfl⟩ := List.mem_map.mp hc
  obtain ⟨h3, h4⟩ := h2 q (List.mem_of_getElem? hq) C hC
  exact ⟨C, rfl, xkB_ok (h1 C h3), h4⟩
end Vs
/-! a text, so many times -/
namespace Vs
open PySem (Str PyData)
def kMulT (x y : VV) : Option VV := match x.d, y.d with
  | .str a, .int k => if -(2 ^ 63) ≤ k ∧ k < 2 ^ 63 ∧ a.length * k.toNat ≤ lim then some (vs (PySem.Txt.mul a k)) else none
  | _, _ => none
end Vs
set_option maxHeartbeats 4000000
/-! a text, so many times -/
namespace Vs
open PySem PySem.Spec PyProof.Rows L2
section
variable {X : Cx} {K : PySem.W.Frag}
theorem mulOk_of {a : Str} {k : Int} (h1 : -(2 ^ 63) ≤ k) (h2 : k < 2 ^ 63) (h3 : a.length * k.toNat ≤ sizeLine) : MulOk a k := by
  have hs : sizeLine = 16777216 := rfl
  refine ⟨?_, fun hn _ => ?_, fun hn _ => ?_⟩
  · rw [Bool.or_eq_false_iff, decide_eq_false_iff_not, decide_eq_false_iff_not]
    exact ⟨by omega, by omega⟩
  · have hk : 0 < k := by omega
    have e : (a.length : Int) * k = ((a.length * k.toNat : Nat) : Int) := by
      rw [Int.natCast_mul, Int.toNat_of_nonneg (by omega)]
    have : (a.length : Int) ≤ (2 ^ 63 - 1) / k := by
      rw [Int.le_ediv_iff_mul_le hk, e]
      omega
    omega
  · unfold Builtin.Str.tooLong
    simp
    omega
def rMulT : R2 := fun x y H Q => ∃ a k, x = .str a ∧ y = .int k ∧ MulOk a k ∧ Q (.str (Txt.mul a k)) H
theorem op_mulT : OpR X (binaryOp .Mult) rMulT := by
  intro pins s σ H x y v u Q I rx ry h
  obtain ⟨a, k, rfl, rfl, hok, q⟩ := h
  obtain ⟨t, rfl⟩ := rx
  obtain ⟨t', rfl⟩ := ry
  exact SB.mul hok fun t' k' => ⟨.str _, H, I.tok _, ⟨_, rfl⟩, q⟩
theorem kMulT_op : Op2 K rMulT kMulT := fun S H x v f y u g z Q h1 h2 ok e hQ => by
  unfold kMulT at e
  split at e
  · rename_i a k e1 e2
    split at e
    · rename_i c
      obtain rfl := Option.some.inj e
      rw [lim_eq] at c
      exact ⟨a, k, h1.str e1, h2.int e2, mulOk_of c.1 c.2.1 c.2.2, ret_imm ok rfl (.str _ _) hQ⟩
    · cases e
  · cases e
end
section
variable {ct : Str → Addr} {X : Cx} {a b : Expr} {ga gb : M} {pos : Pos}
theorem s_mulT (ha : SE ct X a ga) (hb : SE ct X b gb) : SE ct X (.BinOp a .Mult b pos) (two ga gb kMulT) := s_op op_mulT kMulT_op ha hb
end
end Vs
set_option maxHeartbeats 4000000
namespace Lw
open PySem Vs
def c_GoesError : Nat := 24
def c_InvalidPermutation : Nat := 37
def c_InvalidNumber : Nat := 49
def c_InvalidWide : Nat := 61
def c_InvalidOutcomes : Nat := 73
def c_InvalidBlock : Nat := 85
def c_OtherSize : Nat := 97
def c_NothingToUndo : Nat := 109
def c_InvalidPermutations : Nat := 130
def c_InvalidRule : Nat := 151
def c_InvalidRules : Nat := 172
def c_InvalidRow : Nat := 193
def c_InvalidRows : Nat := 214
def c_InvalidStream : Nat := 235
def c_InvalidTable : Nat := 256
def c_NotWhole : Nat := 277
def c_TooMany : Nat := 298
def c_WouldGo : Nat := 319
def c_InvalidText : Nat := 340
def xvL : List Str := [cOf c_GoesError, cOf c_InvalidPermutation, cOf c_InvalidNumber, cOf c_InvalidWide, cOf c_InvalidOutcomes, cOf c_InvalidBlock, cOf c_OtherSize, cOf c_NothingToUndo, cOf c_InvalidPermutations, cOf c_InvalidRule, cOf c_InvalidRules, cOf c_InvalidRow, cOf c_InvalidRows, cOf c_InvalidStream, cOf c_InvalidTable, cOf c_NotWhole, cOf c_TooMany, cOf c_WouldGo, cOf c_InvalidText]
def xi_InvalidBlock : List Str := [cOf c_InvalidBlock]
def xi_InvalidNumber : List Str := [cOf c_InvalidNumber]
def xi_InvalidOutcomes : List Str := [cOf c_InvalidOutcomes]
def xi_InvalidPermutation : List Str := [cOf c_InvalidPermutation]
def xi_InvalidPermutations : List Str := [cOf c_InvalidPermutations]
def xi_InvalidRow : List Str := [cOf c_InvalidRow]
def xi_InvalidRows : List Str := [cOf c_InvalidRows]
def xi_InvalidRule : List Str := [cOf c_InvalidRule]
def xi_InvalidRules : List Str := [cOf c_InvalidRules]
def xi_InvalidStream : List Str := [cOf c_InvalidStream]
def xi_InvalidTable : List Str := [cOf c_InvalidTable]
def xi_InvalidText : List Str := [cOf c_InvalidText]
def xi_InvalidWide : List Str := [cOf c_InvalidWide]
def xi_NotWhole : List Str := [cOf c_NotWhole]
def xi_NothingToUndo : List Str := [cOf c_NothingToUndo]
def xi_OtherSize : List Str := [cOf c_OtherSize]
def xi_TooMany : List Str := [cOf c_TooMany]
def xi_WouldGo : List Str := [cOf c_WouldGo]
def xi_GoesError : List Str := [cOf c_GoesError, cOf c_InvalidPermutation, cOf c_InvalidNumber, cOf c_InvalidWide, cOf c_InvalidOutcomes, cOf c_InvalidBlock, cOf c_OtherSize, cOf c_NothingToUndo, cOf c_InvalidPermutations, cOf c_InvalidRule, cOf c_InvalidRules, cOf c_InvalidRow, cOf c_InvalidRows, cOf c_InvalidStream, cOf c_InvalidTable, cOf c_NotWhole, cOf c_TooMany, cOf c_WouldGo, cOf c_InvalidText]
def xi_ValueError : List Str := [cOf c_GoesError, cOf c_InvalidPermutation, cOf c_InvalidNumber, cOf c_InvalidWide, cOf c_InvalidOutcomes, cOf c_InvalidBlock, cOf c_OtherSize, cOf c_NothingToUndo, cOf c_InvalidPermutations, cOf c_InvalidRule, cOf c_InvalidRules, cOf c_InvalidRow, cOf c_InvalidRows, cOf c_InvalidStream, cOf c_InvalidTable, cOf c_NotWhole, cOf c_TooMany, cOf c_WouldGo, cOf c_InvalidText]
def xf_block : List Str := [cOf c_WouldGo]
def xf_index : List Str := [cOf c_InvalidPermutations, cOf c_InvalidRule, cOf c_InvalidRules, cOf c_InvalidRow, cOf c_InvalidRows, cOf c_InvalidStream]
def xf_limit : List Str := [cOf c_TooMany]
def xf_line : List Str := [cOf c_InvalidText]
def xf_places : List Str := [cOf c_NotWhole]
def xf_state : List Str := [cOf c_InvalidTable]
def xf_word : List Str := [cOf c_InvalidText]
noncomputable def b_l_bag : MS := (pre [] [0, 1] (sq (ifs (tst (two (v 0) (cst (vi 0)) kLt) blOf) (ret (argsk (args [(one (v 0) kNeg), (two (two (cst (vi 37)) (v 1) kMul) (cst (vi 18)) kAdd)]) kLst)) skip)
    (ret (argsk (args [(fz 0 [0] (v 0)), (two (cst (vi 37)) (v 1) kMul)]) kLst))))
noncomputable def m_l_bag : List PV → RF := fnM 2 [true, true] b_l_bag
noncomputable def b_l_draw : MS := (sq (augC 0 1 1)
    (sq (ifs (tst (two (two (v 0) (cst (vi 0)) kIx) (two (cst (vi 10)) (cst (vi 18)) kPow) kGe) blOf) (sq (asg (two (argsk (args [(two (v 0) (cst (vi 0)) kIx)]) kInt) (v 1) kMod) (gname 2))
    (sq (asg (two (two (v 0) (cst (vi 0)) kIx) (v 1) kDiv) (gset 0 (cst (vi 0))))
    (retv 2))) skip)
    (sq (asg (two (argsk (args [(two (two (two (argsk (args [(two (v 0) (cst (vi 0)) kIx)]) kInt) (cst (vi 2147483629)) kMod) (two (cst (vi 104729)) (two (v 0) (cst (vi 1)) kIx) kMul) kAdd) (cst (vi 1)) kAdd)]) kInt) (cst (vi 2147483587)) kMod) (gname 3))
    (sq (asg (two (argsk (args [(two (v 3) (v 3) kMul)]) kInt) (cst (vi 2147483587)) kMod) (gname 3))
    (sq (asg (two (argsk (args [(two (fz 1 [3] (v 3)) (two (cst (vi 40692)) (two (v 0) (cst (vi 1)) kIx) kMul) kAdd)]) kInt) (cst (vi 2147483563)) kMod) (gname 3))
    (sq (asg (two (argsk (args [(two (v 3) (v 3) kMul)]) kInt) (cst (vi 2147483563)) kMod) (gname 3))
    (ret (two (argsk (args [(two (v 3) (cst (vi 8)) kDiv)]) kInt) (v 1) kMod))))))))
noncomputable def m_l_draw : List PV → RF := fnM 4 [true, true] b_l_draw
noncomputable def b_l_fields_right : MS := (pre [] [0] (sq (asg (argsk (args []) kLst) (gname 1))
    (sq (asg (two (fz 0 [1] (v 1)) (argsk (args [(one (one (fz 0 [0] (v 0)) (kXv1 (cOf c_InvalidPermutations) "index")) (kFldX xf_index "index")), (one (one (fz 0 [0] (v 0)) (kXv1 (cOf c_InvalidPermutations) "index")) (kFldX xf_index "index"))]) kLst) kAdd) (gname 1))
    (sq (asg (two (fz 0 [1] (v 1)) (argsk (args [(one (one (fz 0 [0] (v 0)) (kXv1 (cOf c_InvalidRule) "index")) (kFldX xf_index "index")), (one (one (fz 0 [0] (v 0)) (kXv1 (cOf c_InvalidRule) "index")) (kFldX xf_index "index"))]) kLst) kAdd) (gname 1))
    (sq (asg (two (fz 0 [1] (v 1)) (argsk (args [(one (one (fz 0 [0] (v 0)) (kXv1 (cOf c_InvalidRules) "index")) (kFldX xf_index "index")), (one (one (fz 0 [0] (v 0)) (kXv1 (cOf c_InvalidRules) "index")) (kFldX xf_index "index"))]) kLst) kAdd) (gname 1))
    (sq (asg (two (fz 0 [1] (v 1)) (argsk (args [(one (one (fz 0 [0] (v 0)) (kXv1 (cOf c_InvalidRow) "index")) (kFldX xf_index "index")), (one (one (fz 0 [0] (v 0)) (kXv1 (cOf c_InvalidRow) "index")) (kFldX xf_index "index"))]) kLst) kAdd) (gname 1))
    (sq (asg (two (fz 0 [1] (v 1)) (argsk (args [(one (one (fz 0 [0] (v 0)) (kXv1 (cOf c_InvalidRows) "index")) (kFldX xf_index "index")), (one (one (fz 0 [0] (v 0)) (kXv1 (cOf c_InvalidRows) "index")) (kFldX xf_index "index"))]) kLst) kAdd) (gname 1))
    (sq (asg (two (fz 0 [1] (v 1)) (argsk (args [(one (one (fz 0 [0] (v 0)) (kXv1 (cOf c_InvalidStream) "index")) (kFldX xf_index "index")), (one (one (fz 0 [0] (v 0)) (kXv1 (cOf c_InvalidStream) "index")) (kFldX xf_index "index"))]) kLst) kAdd) (gname 1))
    (sq (asg (two (fz 0 [1] (v 1)) (argsk (args [(one (one (fz 0 [0] (v 0)) (kXv1 (cOf c_InvalidTable) "state")) (kFldX xf_state "state")), (one (one (fz 0 [0] (v 0)) (kXv1 (cOf c_InvalidTable) "state")) (kFldX xf_state "state"))]) kLst) kAdd) (gname 1))
    (sq (asg (two (fz 0 [1] (v 1)) (argsk (args [(one (one (fz 0 [0] (v 0)) (kXv1 (cOf c_TooMany) "limit")) (kFldX xf_limit "limit")), (one (one (fz 0 [0] (v 0)) (kXv1 (cOf c_TooMany) "limit")) (kFldX xf_limit "limit"))]) kLst) kAdd) (gname 1))
    (sq (asg (two (fz 0 [1] (v 1)) (argsk (args [(one (one (fz 0 [0] (v 0)) (kXv1 (cOf c_WouldGo) "block")) (kFldX xf_block "block")), (one (one (fz 0 [0] (v 0)) (kXv1 (cOf c_WouldGo) "block")) (kFldX xf_block "block"))]) kLst) kAdd) (gname 1))
    (sq (asg (argsk (args [(fz 0 [0] (v 0)), (two (fz 1 [0] (v 0)) (cst (vi 1)) kAdd)]) kLst) (gname 2))
    (sq (ifs (tor (tst (two (one (one (fz 0 [2] (v 2)) (kXv1 (cOf c_NotWhole) "places")) (kFldX xf_places "places")) (v 2) kNe) blOf) (tst (two (one (one (fz 0 [2] (v 2)) (kXv1 (cOf c_NotWhole) "places")) (kFldX xf_places "places")) (v 2) kNe) blOf)) (ret (cst (vb false))) skip)
    (sq (par 3 4 (args [(argsk (args [(fz 0 [0] (v 0)), (two (fz 1 [0] (v 0)) (cst (vi 1)) kAdd)]) (kXv2 (cOf c_InvalidText) "line" "word")), (argsk (args [(fz 0 [0] (v 0)), (two (fz 1 [0] (v 0)) (cst (vi 1)) kAdd)]) (kXv2 (cOf c_InvalidText) "line" "word"))]))
    (sq (ifs (tor (tst (two (argsk (args [(one (v 3) (kFldX xf_line "line")), (one (v 3) (kFldX xf_word "word"))]) kLst) (v 2) kNe) blOf) (tst (two (argsk (args [(one (v 4) (kFldX xf_line "line")), (one (v 4) (kFldX xf_word "word"))]) kLst) (v 2) kNe) blOf)) (ret (cst (vb false))) skip)
    (ret (two (v 1) (two (argsk (args [(fz 0 [0] (v 0))]) kLst) (cst (vi 18)) kMul) kEq)))))))))))))))))
noncomputable def t_l_fields_right_0 : MS := (asg (argsk (args []) kLst) (gname 1))
noncomputable def t_l_fields_right_1 : MS := (asg (two (fz 0 [1] (v 1)) (argsk (args [(one (one (fz 0 [0] (v 0)) (kXv1 (cOf c_InvalidPermutations) "index")) (kFldX xf_index "index")), (one (one (fz 0 [0] (v 0)) (kXv1 (cOf c_InvalidPermutations) "index")) (kFldX xf_index "index"))]) kLst) kAdd) (gname 1))
noncomputable def t_l_fields_right_2 : MS := (asg (two (fz 0 [1] (v 1)) (argsk (args [(one (one (fz 0 [0] (v 0)) (kXv1 (cOf c_InvalidRule) "index")) (kFldX xf_index "index")), (one (one (fz 0 [0] (v 0)) (kXv1 (cOf c_InvalidRule) "index")) (kFldX xf_index "index"))]) kLst) kAdd) (gname 1))
noncomputable def t_l_fields_right_3 : MS := (asg (two (fz 0 [1] (v 1)) (argsk (args [(one (one (fz 0 [0] (v 0)) (kXv1 (cOf c_InvalidRules) "index")) (kFldX xf_index "index")), (one (one (fz 0 [0] (v 0)) (kXv1 (cOf c_InvalidRules) "index")) (kFldX xf_index "index"))]) kLst) kAdd) (gname 1))
noncomputable def t_l_fields_right_4 : MS := (asg (two (fz 0 [1] (v 1)) (argsk (args [(one (one (fz 0 [0] (v 0)) (kXv1 (cOf c_InvalidRow) "index")) (kFldX xf_index "index")), (one (one (fz 0 [0] (v 0)) (kXv1 (cOf c_InvalidRow) "index")) (kFldX xf_index "index"))]) kLst) kAdd) (gname 1))
noncomputable def t_l_fields_right_5 : MS := (asg (two (fz 0 [1] (v 1)) (argsk (args [(one (one (fz 0 [0] (v 0)) (kXv1 (cOf c_InvalidRows) "index")) (kFldX xf_index "index")), (one (one (fz 0 [0] (v 0)) (kXv1 (cOf c_InvalidRows) "index")) (kFldX xf_index "index"))]) kLst) kAdd) (gname 1))
noncomputable def t_l_fields_right_6 : MS := (asg (two (fz 0 [1] (v 1)) (argsk (args [(one (one (fz 0 [0] (v 0)) (kXv1 (cOf c_InvalidStream) "index")) (kFldX xf_index "index")), (one (one (fz 0 [0] (v 0)) (kXv1 (cOf c_InvalidStream) "index")) (kFldX xf_index "index"))]) kLst) kAdd) (gname 1))
noncomputable def t_l_fields_right_7 : MS := (asg (two (fz 0 [1] (v 1)) (argsk (args [(one (one (fz 0 [0] (v 0)) (kXv1 (cOf c_InvalidTable) "state")) (kFldX xf_state "state")), (one (one (fz 0 [0] (v 0)) (kXv1 (cOf c_InvalidTable) "state")) (kFldX xf_state "state"))]) kLst) kAdd) (gname 1))
noncomputable def t_l_fields_right_8 : MS := (asg (two (fz 0 [1] (v 1)) (argsk (args [(one (one (fz 0 [0] (v 0)) (kXv1 (cOf c_TooMany) "limit")) (kFldX xf_limit "limit")), (one (one (fz 0 [0] (v 0)) (kXv1 (cOf c_TooMany) "limit")) (kFldX xf_limit "limit"))]) kLst) kAdd) (gname 1))
noncomputable def t_l_fields_right_9 : MS := (asg (two (fz 0 [1] (v 1)) (argsk (args [(one (one (fz 0 [0] (v 0)) (kXv1 (cOf c_WouldGo) "block")) (kFldX xf_block "block")), (one (one (fz 0 [0] (v 0)) (kXv1 (cOf c_WouldGo) "block")) (kFldX xf_block "block"))]) kLst) kAdd) (gname 1))
noncomputable def t_l_fields_right_10 : MS := (asg (argsk (args [(fz 0 [0] (v 0)), (two (fz 1 [0] (v 0)) (cst (vi 1)) kAdd)]) kLst) (gname 2))
noncomputable def t_l_fields_right_11 : MS := (ifs (tor (tst (two (one (one (fz 0 [2] (v 2)) (kXv1 (cOf c_NotWhole) "places")) (kFldX xf_places "places")) (v 2) kNe) blOf) (tst (two (one (one (fz 0 [2] (v 2)) (kXv1 (cOf c_NotWhole) "places")) (kFldX xf_places "places")) (v 2) kNe) blOf)) (ret (cst (vb false))) skip)
noncomputable def t_l_fields_right_12 : MS := (par 3 4 (args [(argsk (args [(fz 0 [0] (v 0)), (two (fz 1 [0] (v 0)) (cst (vi 1)) kAdd)]) (kXv2 (cOf c_InvalidText) "line" "word")), (argsk (args [(fz 0 [0] (v 0)), (two (fz 1 [0] (v 0)) (cst (vi 1)) kAdd)]) (kXv2 (cOf c_InvalidText) "line" "word"))]))
noncomputable def t_l_fields_right_13 : MS := (ifs (tor (tst (two (argsk (args [(one (v 3) (kFldX xf_line "line")), (one (v 3) (kFldX xf_word "word"))]) kLst) (v 2) kNe) blOf) (tst (two (argsk (args [(one (v 4) (kFldX xf_line "line")), (one (v 4) (kFldX xf_word "word"))]) kLst) (v 2) kNe) blOf)) (ret (cst (vb false))) skip)
noncomputable def t_l_fields_right_14 : MS := (ret (two (v 1) (two (argsk (args [(fz 0 [0] (v 0))]) kLst) (cst (vi 18)) kMul) kEq))
theorem b_l_fields_right_eq : b_l_fields_right = (pre [] [0] (sq t_l_fields_right_0
    (sq t_l_fields_right_1
    (sq t_l_fields_right_2
    (sq t_l_fields_right_3
    (sq t_l_fields_right_4
    (sq t_l_fields_right_5
    (sq t_l_fields_right_6
    (sq t_l_fields_right_7
    (sq t_l_fields_right_8
    (sq t_l_fields_right_9
    (sq t_l_fields_right_10
    (sq t_l_fields_right_11
    (sq t_l_fields_right_12
    (sq t_l_fields_right_13
    t_l_fields_right_14))))))))))))))) := rfl
noncomputable def m_l_fields_right : List PV → RF := fnM 5 [true] b_l_fields_right
noncomputable def b_l_marks : MS := (pre [] [0] (sq (asg (argsk (args []) kLst) (gname 1))
    (sq (asg (two (fz 0 [1] (v 1)) (argsk (args [(one (v 0) (kIsX xi_InvalidBlock xvL)), (one (v 0) (kIsX xi_InvalidNumber xvL))]) kLst) kAdd) (gname 1))
    (sq (asg (two (fz 0 [1] (v 1)) (argsk (args [(one (v 0) (kIsX xi_InvalidOutcomes xvL)), (one (v 0) (kIsX xi_InvalidPermutation xvL))]) kLst) kAdd) (gname 1))
    (sq (asg (two (fz 0 [1] (v 1)) (argsk (args [(one (v 0) (kIsX xi_InvalidPermutations xvL)), (one (v 0) (kIsX xi_InvalidRow xvL))]) kLst) kAdd) (gname 1))
    (sq (asg (two (fz 0 [1] (v 1)) (argsk (args [(one (v 0) (kIsX xi_InvalidRows xvL)), (one (v 0) (kIsX xi_InvalidRule xvL))]) kLst) kAdd) (gname 1))
    (sq (asg (two (fz 0 [1] (v 1)) (argsk (args [(one (v 0) (kIsX xi_InvalidRules xvL)), (one (v 0) (kIsX xi_InvalidStream xvL))]) kLst) kAdd) (gname 1))
    (sq (asg (two (fz 0 [1] (v 1)) (argsk (args [(one (v 0) (kIsX xi_InvalidTable xvL)), (one (v 0) (kIsX xi_InvalidText xvL))]) kLst) kAdd) (gname 1))
    (sq (asg (two (fz 0 [1] (v 1)) (argsk (args [(one (v 0) (kIsX xi_InvalidWide xvL)), (one (v 0) (kIsX xi_NotWhole xvL))]) kLst) kAdd) (gname 1))
    (sq (asg (two (fz 0 [1] (v 1)) (argsk (args [(one (v 0) (kIsX xi_NothingToUndo xvL)), (one (v 0) (kIsX xi_OtherSize xvL))]) kLst) kAdd) (gname 1))
    (sq (asg (two (fz 0 [1] (v 1)) (argsk (args [(one (v 0) (kIsX xi_TooMany xvL)), (one (v 0) (kIsX xi_WouldGo xvL))]) kLst) kAdd) (gname 1))
    (retv 1))))))))))))
noncomputable def t_l_marks_0 : MS := (asg (argsk (args []) kLst) (gname 1))
noncomputable def t_l_marks_1 : MS := (asg (two (fz 0 [1] (v 1)) (argsk (args [(one (v 0) (kIsX xi_InvalidBlock xvL)), (one (v 0) (kIsX xi_InvalidNumber xvL))]) kLst) kAdd) (gname 1))
noncomputable def t_l_marks_2 : MS := (asg (two (fz 0 [1] (v 1)) (argsk (args [(one (v 0) (kIsX xi_InvalidOutcomes xvL)), (one (v 0) (kIsX xi_InvalidPermutation xvL))]) kLst) kAdd) (gname 1))
noncomputable def t_l_marks_3 : MS := (asg (two (fz 0 [1] (v 1)) (argsk (args [(one (v 0) (kIsX xi_InvalidPermutations xvL)), (one (v 0) (kIsX xi_InvalidRow xvL))]) kLst) kAdd) (gname 1))
noncomputable def t_l_marks_4 : MS := (asg (two (fz 0 [1] (v 1)) (argsk (args [(one (v 0) (kIsX xi_InvalidRows xvL)), (one (v 0) (kIsX xi_InvalidRule xvL))]) kLst) kAdd) (gname 1))
noncomputable def t_l_marks_5 : MS := (asg (two (fz 0 [1] (v 1)) (argsk (args [(one (v 0) (kIsX xi_InvalidRules xvL)), (one (v 0) (kIsX xi_InvalidStream xvL))]) kLst) kAdd) (gname 1))
noncomputable def t_l_marks_6 : MS := (asg (two (fz 0 [1] (v 1)) (argsk (args [(one (v 0) (kIsX xi_InvalidTable xvL)), (one (v 0) (kIsX xi_InvalidText xvL))]) kLst) kAdd) (gname 1))
noncomputable def t_l_marks_7 : MS := (asg (two (fz 0 [1] (v 1)) (argsk (args [(one (v 0) (kIsX xi_InvalidWide xvL)), (one (v 0) (kIsX xi_NotWhole xvL))]) kLst) kAdd) (gname 1))
noncomputable def t_l_marks_8 : MS := (asg (two (fz 0 [1] (v 1)) (argsk (args [(one (v 0) (kIsX xi_NothingToUndo xvL)), (one (v 0) (kIsX xi_OtherSize xvL))]) kLst) kAdd) (gname 1))
noncomputable def t_l_marks_9 : MS := (asg (two (fz 0 [1] (v 1)) (argsk (args [(one (v 0) (kIsX xi_TooMany xvL)), (one (v 0) (kIsX xi_WouldGo xvL))]) kLst) kAdd) (gname 1))
noncomputable def t_l_marks_10 : MS := (retv 1)
theorem b_l_marks_eq : b_l_marks = (pre [] [0] (sq t_l_marks_0
    (sq t_l_marks_1
    (sq t_l_marks_2
    (sq t_l_marks_3
    (sq t_l_marks_4
    (sq t_l_marks_5
    (sq t_l_marks_6
    (sq t_l_marks_7
    (sq t_l_marks_8
    (sq t_l_marks_9
    t_l_marks_10))))))))))) := rfl
noncomputable def m_l_marks : List PV → RF := fnM 2 [true] b_l_marks
noncomputable def b_l_right : MS := (pre [] [0, 1] (sq (asg (argsk (args []) kLst) (gname 2))
    (sq (asg (two (fz 0 [2] (v 2)) (argsk (args [(one (fz 0 [0] (v 0)) (kXv0 (cOf c_InvalidBlock))), (one (fz 0 [0] (v 0)) (kXv0 (cOf c_InvalidNumber)))]) kLst) kAdd) (gname 2))
    (sq (asg (two (fz 0 [2] (v 2)) (argsk (args [(one (fz 0 [0] (v 0)) (kXv0 (cOf c_InvalidOutcomes))), (one (fz 0 [0] (v 0)) (kXv0 (cOf c_InvalidPermutation)))]) kLst) kAdd) (gname 2))
    (sq (asg (two (fz 0 [2] (v 2)) (argsk (args [(one (fz 0 [1] (v 1)) (kXv1 (cOf c_InvalidPermutations) "index")), (one (fz 0 [1] (v 1)) (kXv1 (cOf c_InvalidRow) "index"))]) kLst) kAdd) (gname 2))
    (sq (asg (two (fz 0 [2] (v 2)) (argsk (args [(one (fz 0 [1] (v 1)) (kXv1 (cOf c_InvalidRows) "index")), (one (fz 0 [1] (v 1)) (kXv1 (cOf c_InvalidRule) "index"))]) kLst) kAdd) (gname 2))
    (sq (asg (two (fz 0 [2] (v 2)) (argsk (args [(one (fz 0 [1] (v 1)) (kXv1 (cOf c_InvalidRules) "index")), (one (fz 0 [1] (v 1)) (kXv1 (cOf c_InvalidStream) "index"))]) kLst) kAdd) (gname 2))
    (sq (asg (two (fz 0 [2] (v 2)) (argsk (args [(one (fz 0 [1] (v 1)) (kXv1 (cOf c_InvalidTable) "state")), (argsk (args [(fz 0 [1] (v 1)), (two (fz 1 [1] (v 1)) (cst (vi 1)) kAdd)]) (kXv2 (cOf c_InvalidText) "line" "word"))]) kLst) kAdd) (gname 2))
    (sq (asg (two (fz 0 [2] (v 2)) (argsk (args [(one (fz 0 [0] (v 0)) (kXv0 (cOf c_InvalidWide))), (one (argsk (args [(fz 0 [1] (v 1)), (two (fz 1 [1] (v 1)) (cst (vi 1)) kAdd)]) kLst) (kXv1 (cOf c_NotWhole) "places"))]) kLst) kAdd) (gname 2))
    (sq (asg (two (fz 0 [2] (v 2)) (argsk (args [(one (fz 0 [0] (v 0)) (kXv0 (cOf c_NothingToUndo))), (one (fz 0 [0] (v 0)) (kXv0 (cOf c_OtherSize)))]) kLst) kAdd) (gname 2))
    (sq (asg (two (fz 0 [2] (v 2)) (argsk (args [(one (fz 0 [1] (v 1)) (kXv1 (cOf c_TooMany) "limit")), (one (fz 0 [1] (v 1)) (kXv1 (cOf c_WouldGo) "block"))]) kLst) kAdd) (gname 2))
    (sq (pre [3] [2] (fors (itN kR1 (args [(cst (vi 18))])) (gname 3) (tdy [3] [] (sq (ifs (tst (two (call m_l_marks [] [.val (fz 1 [2] (two (v 2) (v 3) kIx))]) (comp (itN kR1 (args [(cst (vi 18))])) (gname 4) yes (two (v 4) (v 3) kEq) [4]) kNe) blOf) (ret (cst (vb false))) skip)
    (ifs (tor (tnot (tst (one (two (v 2) (v 3) kIx) (kIsX xi_GoesError xvL)) blOf)) (tnot (tst (one (two (v 2) (v 3) kIx) (kIsX xi_ValueError xvL)) blOf))) (ret (cst (vb false))) skip)))))
    (ret (vand (call m_l_fields_right [] [.lend 1]) (two (cst (vb true)) (call m_l_marks [] [.val (one (fz 0 [0] (v 0)) (kXv0 (cOf c_GoesError)))]) kNotIn)))))))))))))))
noncomputable def q_l_right_0 : MS := (tdy [3] [] (sq (ifs (tst (two (call m_l_marks [] [.val (fz 1 [2] (two (v 2) (v 3) kIx))]) (comp (itN kR1 (args [(cst (vi 18))])) (gname 4) yes (two (v 4) (v 3) kEq) [4]) kNe) blOf) (ret (cst (vb false))) skip)
    (ifs (tor (tnot (tst (one (two (v 2) (v 3) kIx) (kIsX xi_GoesError xvL)) blOf)) (tnot (tst (one (two (v 2) (v 3) kIx) (kIsX xi_ValueError xvL)) blOf))) (ret (cst (vb false))) skip)))
noncomputable def w_l_right_0 : MS := (pre [3] [2] (fors (itN kR1 (args [(cst (vi 18))])) (gname 3) q_l_right_0))
noncomputable def t_l_right_0 : MS := (asg (argsk (args []) kLst) (gname 2))
noncomputable def t_l_right_1 : MS := (asg (two (fz 0 [2] (v 2)) (argsk (args [(one (fz 0 [0] (v 0)) (kXv0 (cOf c_InvalidBlock))), (one (fz 0 [0] (v 0)) (kXv0 (cOf c_InvalidNumber)))]) kLst) kAdd) (gname 2))
noncomputable def t_l_right_2 : MS := (asg (two (fz 0 [2] (v 2)) (argsk (args [(one (fz 0 [0] (v 0)) (kXv0 (cOf c_InvalidOutcomes))), (one (fz 0 [0] (v 0)) (kXv0 (cOf c_InvalidPermutation)))]) kLst) kAdd) (gname 2))
noncomputable def t_l_right_3 : MS := (asg (two (fz 0 [2] (v 2)) (argsk (args [(one (fz 0 [1] (v 1)) (kXv1 (cOf c_InvalidPermutations) "index")), (one (fz 0 [1] (v 1)) (kXv1 (cOf c_InvalidRow) "index"))]) kLst) kAdd) (gname 2))
noncomputable def t_l_right_4 : MS := (asg (two (fz 0 [2] (v 2)) (argsk (args [(one (fz 0 [1] (v 1)) (kXv1 (cOf c_InvalidRows) "index")), (one (fz 0 [1] (v 1)) (kXv1 (cOf c_InvalidRule) "index"))]) kLst) kAdd) (gname 2))
noncomputable def t_l_right_5 : MS := (asg (two (fz 0 [2] (v 2)) (argsk (args [(one (fz 0 [1] (v 1)) (kXv1 (cOf c_InvalidRules) "index")), (one (fz 0 [1] (v 1)) (kXv1 (cOf c_InvalidStream) "index"))]) kLst) kAdd) (gname 2))
noncomputable def t_l_right_6 : MS := (asg (two (fz 0 [2] (v 2)) (argsk (args [(one (fz 0 [1] (v 1)) (kXv1 (cOf c_InvalidTable) "state")), (argsk (args [(fz 0 [1] (v 1)), (two (fz 1 [1] (v 1)) (cst (vi 1)) kAdd)]) (kXv2 (cOf c_InvalidText) "line" "word"))]) kLst) kAdd) (gname 2))
noncomputable def t_l_right_7 : MS := (asg (two (fz 0 [2] (v 2)) (argsk (args [(one (fz 0 [0] (v 0)) (kXv0 (cOf c_InvalidWide))), (one (argsk (args [(fz 0 [1] (v 1)), (two (fz 1 [1] (v 1)) (cst (vi 1)) kAdd)]) kLst) (kXv1 (cOf c_NotWhole) "places"))]) kLst) kAdd) (gname 2))
noncomputable def t_l_right_8 : MS := (asg (two (fz 0 [2] (v 2)) (argsk (args [(one (fz 0 [0] (v 0)) (kXv0 (cOf c_NothingToUndo))), (one (fz 0 [0] (v 0)) (kXv0 (cOf c_OtherSize)))]) kLst) kAdd) (gname 2))
noncomputable def t_l_right_9 : MS := (asg (two (fz 0 [2] (v 2)) (argsk (args [(one (fz 0 [1] (v 1)) (kXv1 (cOf c_TooMany) "limit")), (one (fz 0 [1] (v 1)) (kXv1 (cOf c_WouldGo) "block"))]) kLst) kAdd) (gname 2))
noncomputable def t_l_right_10 : MS := w_l_right_0
noncomputable def t_l_right_11 : MS := (ret (vand (call m_l_fields_right [] [.lend 1]) (two (cst (vb true)) (call m_l_marks [] [.val (one (fz 0 [0] (v 0)) (kXv0 (cOf c_GoesError)))]) kNotIn)))
theorem b_l_right_eq : b_l_right = (pre [] [0, 1] (sq t_l_right_0
    (sq t_l_right_1
    (sq t_l_right_2
    (sq t_l_right_3
    (sq t_l_right_4
    (sq t_l_right_5
    (sq t_l_right_6
    (sq t_l_right_7
    (sq t_l_right_8
    (sq t_l_right_9
    (sq t_l_right_10
    t_l_right_11)))))))))))) := rfl
noncomputable def m_l_right : List PV → RF := fnM 5 [true, true] b_l_right
noncomputable def b_p_law : MS := (pre [] [0] (sq (asg (two (slc (fz 1 [0] (v 0)) none (some (cst (vi 8)))) (two (argsk (args [(cst (vi 0))]) kLst) (argsk (args [(two (v 0) (argsk (args []) kLst) kEq)]) kInt) kMul) kAdd) (gname 1))
    (sq (pre [2, 3, 4] [1] (fors (itN kR1 (args [(argsk (args [(v 1)]) kLen)])) (gname 2) (tdy [2, 3, 4] [] (sq (asg (call m_l_bag [] [.val (fz 1 [1] (two (v 1) (v 2) kIx)), .lend 2]) (gname 3))
    (sq (asg (two (two (cst (vs "a| ~")) (call m_l_draw [] [.lend 3, .val (cst (vi 4))]) kIx) (call m_l_draw [] [.lend 3, .val (cst (vi 60))]) kMulT) (gname 4))
    (ifs (tnot (tst (call m_l_right [] [.lend 4, .val (call m_l_draw [] [.lend 3, .val (cst (vi 12))])]) blOf)) (ret (cst (vb false))) skip))))))
    (ret (cst (vb true))))))
noncomputable def q_p_law_0 : MS := (tdy [2, 3, 4] [] (sq (asg (call m_l_bag [] [.val (fz 1 [1] (two (v 1) (v 2) kIx)), .lend 2]) (gname 3))
    (sq (asg (two (two (cst (vs "a| ~")) (call m_l_draw [] [.lend 3, .val (cst (vi 4))]) kIx) (call m_l_draw [] [.lend 3, .val (cst (vi 60))]) kMulT) (gname 4))
    (ifs (tnot (tst (call m_l_right [] [.lend 4, .val (call m_l_draw [] [.lend 3, .val (cst (vi 12))])]) blOf)) (ret (cst (vb false))) skip))))
noncomputable def w_p_law_0 : MS := (pre [2, 3, 4] [1] (fors (itN kR1 (args [(argsk (args [(v 1)]) kLen)])) (gname 2) q_p_law_0))
theorem b_p_law_eq : b_p_law = (pre [] [0] (sq (asg (two (slc (fz 1 [0] (v 0)) none (some (cst (vi 8)))) (two (argsk (args [(cst (vi 0))]) kLst) (argsk (args [(two (v 0) (argsk (args []) kLst) kEq)]) kInt) kMul) kAdd) (gname 1))
    (sq w_p_law_0
    (ret (cst (vb true)))))) := rfl
noncomputable def m_p_law : List PV → RF := fnM 5 [true] b_p_law
end Lw
set_option maxHeartbeats 4000000
namespace Lw
open PySem PySem.Spec PyProof.Rows L2 Vs
def top (i : Nat) : Stmt := PySem.Challenge.pw_goesnext_k84_errors_are_distinct.main.body.getD i (.Pass ⟨0, 0, 0, 0⟩)
abbrev s_l_bag : Stmt := top 21
abbrev N_l_bag : List Str := ["_law_cell", "_law_k"]
theorem nd_l_bag : N_l_bag.Nodup := by decide +kernel
theorem sc_l_bag : FnScope N_l_bag ["_law_cell", "_law_k"] (defScope s_l_bag) := ⟨rfl, rfl, rfl, nd_l_bag, rfl, by decide +kernel, by decide +kernel⟩
abbrev s_l_draw : Stmt := top 22
abbrev N_l_draw : List Str := ["_law_bag_here", "_law_many", "_law_digit", "_law_one"]
theorem nd_l_draw : N_l_draw.Nodup := by decide +kernel
theorem sc_l_draw : FnScope N_l_draw ["_law_bag_here", "_law_many"] (defScope s_l_draw) := ⟨rfl, rfl, rfl, nd_l_draw, rfl, by decide +kernel, by decide +kernel⟩
abbrev s_l_fields_right : Stmt := top 24
abbrev N_l_fields_right : List Str := ["_law_amount", "_law_values", "_law_some", "_law_first", "_law_second"]
theorem nd_l_fields_right : N_l_fields_right.Nodup := by decide +kernel
theorem sc_l_fields_right : FnScope N_l_fields_right ["_law_amount"] (defScope s_l_fields_right) := ⟨rfl, rfl, rfl, nd_l_fields_right, rfl, by decide +kernel, by decide +kernel⟩
abbrev s_l_marks : Stmt := top 23
abbrev N_l_marks : List Str := ["_law_e", "_law_marks_here"]
theorem nd_l_marks : N_l_marks.Nodup := by decide +kernel
theorem sc_l_marks : FnScope N_l_marks ["_law_e"] (defScope s_l_marks) := ⟨rfl, rfl, rfl, nd_l_marks, rfl, by decide +kernel, by decide +kernel⟩
abbrev s_l_right : Stmt := top 25
abbrev N_l_right : List Str := ["_law_message", "_law_amount", "_law_some", "_law_k", "_law_other"]
theorem nd_l_right : N_l_right.Nodup := by decide +kernel
theorem sc_l_right : FnScope N_l_right ["_law_message", "_law_amount"] (defScope s_l_right) := ⟨rfl, rfl, rfl, nd_l_right, rfl, by decide +kernel, by decide +kernel⟩
abbrev s_p_law : Stmt := top 26
abbrev N_p_law : List Str := ["_law_script", "_law_cells", "_law_k", "_law_bag_here", "_law_message"]
theorem nd_p_law : N_p_law.Nodup := by decide +kernel
theorem sc_p_law : FnScope N_p_law ["_law_script"] (defScope s_p_law) := ⟨rfl, rfl, rfl, nd_p_law, rfl, by decide +kernel, by decide +kernel⟩
abbrev xs_InvalidPermutations : Stmt := clsFn (top 9)
abbrev xs_InvalidRule : Stmt := clsFn (top 10)
abbrev xs_InvalidRules : Stmt := clsFn (top 11)
abbrev xs_InvalidRow : Stmt := clsFn (top 12)
abbrev xs_InvalidRows : Stmt := clsFn (top 13)
abbrev xs_InvalidStream : Stmt := clsFn (top 14)
abbrev xs_InvalidTable : Stmt := clsFn (top 15)
abbrev xs_NotWhole : Stmt := clsFn (top 16)
abbrev xs_TooMany : Stmt := clsFn (top 17)
abbrev xs_WouldGo : Stmt := clsFn (top 18)
abbrev xs_InvalidText : Stmt := clsFn (top 19)
structure Txt (P : Program) (K : PySem.W.Frag) (mg : Str → Option Value) : Prop where
  m_GoesError : mg "GoesError" = some (.ref c_GoesError)
  t_GoesError : XTx K c_GoesError
  m_InvalidPermutation : mg "InvalidPermutation" = some (.ref c_InvalidPermutation)
  t_InvalidPermutation : XTx K c_InvalidPermutation
  m_InvalidNumber : mg "InvalidNumber" = some (.ref c_InvalidNumber)
  t_InvalidNumber : XTx K c_InvalidNumber
  m_InvalidWide : mg "InvalidWide" = some (.ref c_InvalidWide)
  t_InvalidWide : XTx K c_InvalidWide
  m_InvalidOutcomes : mg "InvalidOutcomes" = some (.ref c_InvalidOutcomes)
  t_InvalidOutcomes : XTx K c_InvalidOutcomes
  m_InvalidBlock : mg "InvalidBlock" = some (.ref c_InvalidBlock)
  t_InvalidBlock : XTx K c_InvalidBlock
  m_OtherSize : mg "OtherSize" = some (.ref c_OtherSize)
  t_OtherSize : XTx K c_OtherSize
  m_NothingToUndo : mg "NothingToUndo" = some (.ref c_NothingToUndo)
  t_NothingToUndo : XTx K c_NothingToUndo
  m_InvalidPermutations : mg "InvalidPermutations" = some (.ref c_InvalidPermutations)
  f_InvalidPermutations : ∃ fI, XCls P K c_InvalidPermutations fI "index" ∧ XKw K fI "index"
  m_InvalidRule : mg "InvalidRule" = some (.ref c_InvalidRule)
  f_InvalidRule : ∃ fI, XCls P K c_InvalidRule fI "index" ∧ XKw K fI "index"
  m_InvalidRules : mg "InvalidRules" = some (.ref c_InvalidRules)
  f_InvalidRules : ∃ fI, XCls P K c_InvalidRules fI "index" ∧ XKw K fI "index"
  m_InvalidRow : mg "InvalidRow" = some (.ref c_InvalidRow)
  f_InvalidRow : ∃ fI, XCls P K c_InvalidRow fI "index" ∧ XKw K fI "index"
  m_InvalidRows : mg "InvalidRows" = some (.ref c_InvalidRows)
  f_InvalidRows : ∃ fI, XCls P K c_InvalidRows fI "index" ∧ XKw K fI "index"
  m_InvalidStream : mg "InvalidStream" = some (.ref c_InvalidStream)
  f_InvalidStream : ∃ fI, XCls P K c_InvalidStream fI "index" ∧ XKw K fI "index"
  m_InvalidTable : mg "InvalidTable" = some (.ref c_InvalidTable)
  f_InvalidTable : ∃ fI, XCls P K c_InvalidTable fI "state" ∧ XKw K fI "state"
  m_NotWhole : mg "NotWhole" = some (.ref c_NotWhole)
  f_NotWhole : ∃ fI, XCls P K c_NotWhole fI "places" ∧ XKw K fI "places"
  m_TooMany : mg "TooMany" = some (.ref c_TooMany)
  f_TooMany : ∃ fI, XCls P K c_TooMany fI "limit" ∧ XKw K fI "limit"
  m_WouldGo : mg "WouldGo" = some (.ref c_WouldGo)
  f_WouldGo : ∃ fI, XCls P K c_WouldGo fI "block" ∧ XKw K fI "block"
  m_InvalidText : mg "InvalidText" = some (.ref c_InvalidText)
  f_InvalidText : ∃ fI, XCls2 P K c_InvalidText fI "line" "word"
  xi_InvalidBlock : XIs K (.ref c_InvalidBlock) xi_InvalidBlock xvL
  xi_InvalidNumber : XIs K (.ref c_InvalidNumber) xi_InvalidNumber xvL
  xi_InvalidOutcomes : XIs K (.ref c_InvalidOutcomes) xi_InvalidOutcomes xvL
  xi_InvalidPermutation : XIs K (.ref c_InvalidPermutation) xi_InvalidPermutation xvL
  xi_InvalidPermutations : XIs K (.ref c_InvalidPermutations) xi_InvalidPermutations xvL
  xi_InvalidRow : XIs K (.ref c_InvalidRow) xi_InvalidRow xvL
  xi_InvalidRows : XIs K (.ref c_InvalidRows) xi_InvalidRows xvL
  xi_InvalidRule : XIs K (.ref c_InvalidRule) xi_InvalidRule xvL
  xi_InvalidRules : XIs K (.ref c_InvalidRules) xi_InvalidRules xvL
  xi_InvalidStream : XIs K (.ref c_InvalidStream) xi_InvalidStream xvL
  xi_InvalidTable : XIs K (.ref c_InvalidTable) xi_InvalidTable xvL
  xi_InvalidText : XIs K (.ref c_InvalidText) xi_InvalidText xvL
  xi_InvalidWide : XIs K (.ref c_InvalidWide) xi_InvalidWide xvL
  xi_NotWhole : XIs K (.ref c_NotWhole) xi_NotWhole xvL
  xi_NothingToUndo : XIs K (.ref c_NothingToUndo) xi_NothingToUndo xvL
  xi_OtherSize : XIs K (.ref c_OtherSize) xi_OtherSize xvL
  xi_TooMany : XIs K (.ref c_TooMany) xi_TooMany xvL
  xi_WouldGo : XIs K (.ref c_WouldGo) xi_WouldGo xvL
  xi_GoesError : XIs K (.ref c_GoesError) xi_GoesError xvL
  xi_ValueError : XIs K (.type "ValueError") xi_ValueError xvL
  xw_block : XFl K "block" xf_block
  xw_index : XFl K "index" xf_index
  xw_limit : XFl K "limit" xf_limit
  xw_line : XFl K "line" xf_line
  xw_places : XFl K "places" xf_places
  xw_state : XFl K "state" xf_state
  xw_word : XFl K "word" xf_word
  z_ValueError : mg "ValueError" = none
  z_int : mg "int" = none
  z_isinstance : mg "isinstance" = none
  z_len : mg "len" = none
  z_range : mg "range" = none
  z_super : mg "super" = none
section
variable {P : Program} {w : World} {K : PySem.W.Frag} {mg : Str → Option Value} {base : Heap} {ct : Str → Addr}
theorem bl_bag_2 {f : Addr} {fd : FuncData} (F : FunD K "_law_bag" "_law_bag" (defArgs s_l_bag) (defBody s_l_bag) (defScope s_l_bag) [] [] f fd) : L2.Binds K fd ["_law_cell", "_law_k"] [] := binds_0 F fun _ _ _ _ _ _ us hl => match us, hl with | [_, _], _ => rfl
theorem bl_draw_2 {f : Addr} {fd : FuncData} (F : FunD K "_law_draw" "_law_draw" (defArgs s_l_draw) (defBody s_l_draw) (defScope s_l_draw) [] [] f fd) : L2.Binds K fd ["_law_bag_here", "_law_many"] [] := binds_0 F fun _ _ _ _ _ _ us hl => match us, hl with | [_, _], _ => rfl
theorem bl_fields_right_1 {f : Addr} {fd : FuncData} (F : FunD K "_law_fields_right" "_law_fields_right" (defArgs s_l_fields_right) (defBody s_l_fields_right) (defScope s_l_fields_right) [] [] f fd) : L2.Binds K fd ["_law_amount"] [] := binds_0 F fun _ _ _ _ _ _ us hl => match us, hl with | [_], _ => rfl
theorem bl_marks_1 {f : Addr} {fd : FuncData} (F : FunD K "_law_marks" "_law_marks" (defArgs s_l_marks) (defBody s_l_marks) (defScope s_l_marks) [] [] f fd) : L2.Binds K fd ["_law_e"] [] := binds_0 F fun _ _ _ _ _ _ us hl => match us, hl with | [_], _ => rfl
theorem bl_right_2 {f : Addr} {fd : FuncData} (F : FunD K "_law_right" "_law_right" (defArgs s_l_right) (defBody s_l_right) (defScope s_l_right) [] [] f fd) : L2.Binds K fd ["_law_message", "_law_amount"] [] := binds_0 F fun _ _ _ _ _ _ us hl => match us, hl with | [_, _], _ => rfl
theorem fn_l_bag {a : Addr} {fd : FuncData} (T : Txt P K mg) (F : FunD K "_law_bag" "_law_bag" (defArgs s_l_bag) (defBody s_l_bag) (defScope s_l_bag) [] [] a fd)  : Fn P w K mg base ct 1 a fd ["_law_cell", "_law_k"] m_l_bag := by
  refine fn_ofD F sc_l_bag (by decide) rfl fun cdv A outer s H E hr hgd => ?_
  exact (sss_pre (ss_cons (ss_if (t_lt (s_v 0) s_int) (ss_one (ss_ret (s_lst (sa_cons (s_neg (s_v 0)) (sa_cons (s_add (s_mul s_int (s_v 1)) s_int) sa_nil))))) ss_nil)
    (ss_one (ss_ret (s_lst (sa_cons (s_fz (s_v 0)) (sa_cons (s_mul s_int (s_v 1)) sa_nil)))))))
theorem fn_l_draw {a : Addr} {fd : FuncData} (T : Txt P K mg) (F : FunD K "_law_draw" "_law_draw" (defArgs s_l_draw) (defBody s_l_draw) (defScope s_l_draw) [] [] a fd)  : Fn P w K mg base ct 1 a fd ["_law_bag_here", "_law_many"] m_l_draw := by
  refine fn_ofD F sc_l_draw (by decide) rfl fun cdv A outer s H E hr hgd => ?_
  exact (ss_cons (ss_augC (i := 0))
    (ss_cons (ss_if (t_ge (s_ix (s_v 0) s_int) (s_pow s_int s_int)) (ss_cons (ss_asg (s_mod (s_ty call_int1 kInt_op (by rfl) T.z_int (by decide +kernel) (by decide) (by decide) (sa_cons (s_ix (s_v 0) s_int) sa_nil)) (s_v 1)) (sg_name nd_l_draw (i := 2) rfl (Or.inl rfl) (by decide)))
    (ss_cons (ss_asg (s_div (s_ix (s_v 0) s_int) (s_v 1)) (sg_set s_int (i := 0)))
    (ss_one (ss_retv 2)))) ss_nil)
    (ss_cons (ss_asg (s_mod (s_ty call_int1 kInt_op (by rfl) T.z_int (by decide +kernel) (by decide) (by decide) (sa_cons (s_add (s_add (s_mod (s_ty call_int1 kInt_op (by rfl) T.z_int (by decide +kernel) (by decide) (by decide) (sa_cons (s_ix (s_v 0) s_int) sa_nil)) s_int) (s_mul s_int (s_ix (s_v 0) s_int))) s_int) sa_nil)) s_int) (sg_name nd_l_draw (i := 3) rfl (Or.inl rfl) (by decide)))
    (ss_cons (ss_asg (s_mod (s_ty call_int1 kInt_op (by rfl) T.z_int (by decide +kernel) (by decide) (by decide) (sa_cons (s_mul (s_v 3) (s_v 3)) sa_nil)) s_int) (sg_name nd_l_draw (i := 3) rfl (Or.inl rfl) (by decide)))
    (ss_cons (ss_asg (s_mod (s_ty call_int1 kInt_op (by rfl) T.z_int (by decide +kernel) (by decide) (by decide) (sa_cons (s_add (s_fz (s_v 3)) (s_mul s_int (s_ix (s_v 0) s_int))) sa_nil)) s_int) (sg_name nd_l_draw (i := 3) rfl (Or.inl rfl) (by decide)))
    (ss_cons (ss_asg (s_mod (s_ty call_int1 kInt_op (by rfl) T.z_int (by decide +kernel) (by decide) (by decide) (sa_cons (s_mul (s_v 3) (s_v 3)) sa_nil)) s_int) (sg_name nd_l_draw (i := 3) rfl (Or.inl rfl) (by decide)))
    (ss_one (ss_ret (s_mod (s_ty call_int1 kInt_op (by rfl) T.z_int (by decide +kernel) (by decide) (by decide) (sa_cons (s_div (s_v 3) s_int) sa_nil)) (s_v 1))))))))))
theorem fn_l_fields_right {a : Addr} {fd : FuncData} (T : Txt P K mg) (F : FunD K "_law_fields_right" "_law_fields_right" (defArgs s_l_fields_right) (defBody s_l_fields_right) (defScope s_l_fields_right) [] [] a fd)  : Fn P w K mg base ct 1 a fd ["_law_amount"] m_l_fields_right := by
  refine fn_ofD F sc_l_fields_right (by decide) rfl fun cdv A outer s H E hr hgd => ?_
  exact (sss_pre (ss_cons (ss_asg (s_lst sa_nil) (sg_name nd_l_fields_right (i := 1) rfl (Or.inl rfl) (by decide)))
    (ss_cons (ss_asg (s_add (s_fz (s_v 1)) (s_lst (sa_cons (s_fldX T.xw_index (T.f_InvalidPermutations.elim fun _ h => s_xv1 h.1 hr T.m_InvalidPermutations T.z_super (by rfl) (s_fz (s_v 0)))) (sa_cons (s_fldX T.xw_index (T.f_InvalidPermutations.elim fun _ h => s_xv1k h.1 h.2 hr T.m_InvalidPermutations T.z_super (by rfl) (s_fz (s_v 0)))) sa_nil)))) (sg_name nd_l_fields_right (i := 1) rfl (Or.inl rfl) (by decide)))
    (ss_cons (ss_asg (s_add (s_fz (s_v 1)) (s_lst (sa_cons (s_fldX T.xw_index (T.f_InvalidRule.elim fun _ h => s_xv1 h.1 hr T.m_InvalidRule T.z_super (by rfl) (s_fz (s_v 0)))) (sa_cons (s_fldX T.xw_index (T.f_InvalidRule.elim fun _ h => s_xv1k h.1 h.2 hr T.m_InvalidRule T.z_super (by rfl) (s_fz (s_v 0)))) sa_nil)))) (sg_name nd_l_fields_right (i := 1) rfl (Or.inl rfl) (by decide)))
    (ss_cons (ss_asg (s_add (s_fz (s_v 1)) (s_lst (sa_cons (s_fldX T.xw_index (T.f_InvalidRules.elim fun _ h => s_xv1 h.1 hr T.m_InvalidRules T.z_super (by rfl) (s_fz (s_v 0)))) (sa_cons (s_fldX T.xw_index (T.f_InvalidRules.elim fun _ h => s_xv1k h.1 h.2 hr T.m_InvalidRules T.z_super (by rfl) (s_fz (s_v 0)))) sa_nil)))) (sg_name nd_l_fields_right (i := 1) rfl (Or.inl rfl) (by decide)))
    (ss_cons (ss_asg (s_add (s_fz (s_v 1)) (s_lst (sa_cons (s_fldX T.xw_index (T.f_InvalidRow.elim fun _ h => s_xv1 h.1 hr T.m_InvalidRow T.z_super (by rfl) (s_fz (s_v 0)))) (sa_cons (s_fldX T.xw_index (T.f_InvalidRow.elim fun _ h => s_xv1k h.1 h.2 hr T.m_InvalidRow T.z_super (by rfl) (s_fz (s_v 0)))) sa_nil)))) (sg_name nd_l_fields_right (i := 1) rfl (Or.inl rfl) (by decide)))
    (ss_cons (ss_asg (s_add (s_fz (s_v 1)) (s_lst (sa_cons (s_fldX T.xw_index (T.f_InvalidRows.elim fun _ h => s_xv1 h.1 hr T.m_InvalidRows T.z_super (by rfl) (s_fz (s_v 0)))) (sa_cons (s_fldX T.xw_index (T.f_InvalidRows.elim fun _ h => s_xv1k h.1 h.2 hr T.m_InvalidRows T.z_super (by rfl) (s_fz (s_v 0)))) sa_nil)))) (sg_name nd_l_fields_right (i := 1) rfl (Or.inl rfl) (by decide)))
    (ss_cons (ss_asg (s_add (s_fz (s_v 1)) (s_lst (sa_cons (s_fldX T.xw_index (T.f_InvalidStream.elim fun _ h => s_xv1 h.1 hr T.m_InvalidStream T.z_super (by rfl) (s_fz (s_v 0)))) (sa_cons (s_fldX T.xw_index (T.f_InvalidStream.elim fun _ h => s_xv1k h.1 h.2 hr T.m_InvalidStream T.z_super (by rfl) (s_fz (s_v 0)))) sa_nil)))) (sg_name nd_l_fields_right (i := 1) rfl (Or.inl rfl) (by decide)))
    (ss_cons (ss_asg (s_add (s_fz (s_v 1)) (s_lst (sa_cons (s_fldX T.xw_state (T.f_InvalidTable.elim fun _ h => s_xv1 h.1 hr T.m_InvalidTable T.z_super (by rfl) (s_fz (s_v 0)))) (sa_cons (s_fldX T.xw_state (T.f_InvalidTable.elim fun _ h => s_xv1k h.1 h.2 hr T.m_InvalidTable T.z_super (by rfl) (s_fz (s_v 0)))) sa_nil)))) (sg_name nd_l_fields_right (i := 1) rfl (Or.inl rfl) (by decide)))
    (ss_cons (ss_asg (s_add (s_fz (s_v 1)) (s_lst (sa_cons (s_fldX T.xw_limit (T.f_TooMany.elim fun _ h => s_xv1 h.1 hr T.m_TooMany T.z_super (by rfl) (s_fz (s_v 0)))) (sa_cons (s_fldX T.xw_limit (T.f_TooMany.elim fun _ h => s_xv1k h.1 h.2 hr T.m_TooMany T.z_super (by rfl) (s_fz (s_v 0)))) sa_nil)))) (sg_name nd_l_fields_right (i := 1) rfl (Or.inl rfl) (by decide)))
    (ss_cons (ss_asg (s_add (s_fz (s_v 1)) (s_lst (sa_cons (s_fldX T.xw_block (T.f_WouldGo.elim fun _ h => s_xv1 h.1 hr T.m_WouldGo T.z_super (by rfl) (s_fz (s_v 0)))) (sa_cons (s_fldX T.xw_block (T.f_WouldGo.elim fun _ h => s_xv1k h.1 h.2 hr T.m_WouldGo T.z_super (by rfl) (s_fz (s_v 0)))) sa_nil)))) (sg_name nd_l_fields_right (i := 1) rfl (Or.inl rfl) (by decide)))
    (ss_cons (ss_asg (s_lst (sa_cons (s_fz (s_v 0)) (sa_cons (s_add (s_fz (s_v 0)) s_int) sa_nil))) (sg_name nd_l_fields_right (i := 2) rfl (Or.inl rfl) (by decide)))
    (ss_cons (ss_if (w_pt (w_or (t_ne hr (s_fldX T.xw_places (T.f_NotWhole.elim fun _ h => s_xv1 h.1 hr T.m_NotWhole T.z_super (by rfl) (s_fz (s_v 2)))) (s_v 2)) (w_or1 (t_ne hr (s_fldX T.xw_places (T.f_NotWhole.elim fun _ h => s_xv1k h.1 h.2 hr T.m_NotWhole T.z_super (by rfl) (s_fz (s_v 2)))) (s_v 2))))) (ss_one (ss_ret s_bl)) ss_nil)
    (ss_cons (ss_par rfl nd_l_fields_right (i := 3) (j := 4) rfl rfl (by decide) (by decide) (by decide) rfl rfl (sa_cons (T.f_InvalidText.elim fun _ h => s_xv2 h hr T.m_InvalidText T.z_super (by rfl) (sa_cons (s_fz (s_v 0)) (sa_cons (s_add (s_fz (s_v 0)) s_int) sa_nil))) (sa_cons (T.f_InvalidText.elim fun _ h => s_xv2k h hr T.m_InvalidText T.z_super (by rfl) (ska_cons (s_fz (s_v 0)) (ska_cons (s_add (s_fz (s_v 0)) s_int) ska_nil))) sa_nil)) (by rfl))
    (ss_cons (ss_if (w_pt (w_or (t_ne hr (s_lst (sa_cons (s_fldX T.xw_line (s_v 3)) (sa_cons (s_fldX T.xw_word (s_v 3)) sa_nil))) (s_v 2)) (w_or1 (t_ne hr (s_lst (sa_cons (s_fldX T.xw_line (s_v 4)) (sa_cons (s_fldX T.xw_word (s_v 4)) sa_nil))) (s_v 2))))) (ss_one (ss_ret s_bl)) ss_nil)
    (ss_one (ss_ret (s_eq hr (s_v 1) (s_mul (s_lst (sa_cons (s_fz (s_v 0)) sa_nil)) s_int)))))))))))))))))))
theorem fn_l_marks {a : Addr} {fd : FuncData} (T : Txt P K mg) (F : FunD K "_law_marks" "_law_marks" (defArgs s_l_marks) (defBody s_l_marks) (defScope s_l_marks) [] [] a fd)  : Fn P w K mg base ct 1 a fd ["_law_e"] m_l_marks := by
  refine fn_ofD F sc_l_marks (by decide) rfl fun cdv A outer s H E hr hgd => ?_
  exact (sss_pre (ss_cons (ss_asg (s_lst sa_nil) (sg_name nd_l_marks (i := 1) rfl (Or.inl rfl) (by decide)))
    (ss_cons (ss_asg (s_add (s_fz (s_v 1)) (s_lst (sa_cons (s_isX T.xi_InvalidBlock (by rfl) T.z_isinstance (by rfl) T.m_InvalidBlock (s_v 0)) (sa_cons (s_isX T.xi_InvalidNumber (by rfl) T.z_isinstance (by rfl) T.m_InvalidNumber (s_v 0)) sa_nil)))) (sg_name nd_l_marks (i := 1) rfl (Or.inl rfl) (by decide)))
    (ss_cons (ss_asg (s_add (s_fz (s_v 1)) (s_lst (sa_cons (s_isX T.xi_InvalidOutcomes (by rfl) T.z_isinstance (by rfl) T.m_InvalidOutcomes (s_v 0)) (sa_cons (s_isX T.xi_InvalidPermutation (by rfl) T.z_isinstance (by rfl) T.m_InvalidPermutation (s_v 0)) sa_nil)))) (sg_name nd_l_marks (i := 1) rfl (Or.inl rfl) (by decide)))
    (ss_cons (ss_asg (s_add (s_fz (s_v 1)) (s_lst (sa_cons (s_isX T.xi_InvalidPermutations (by rfl) T.z_isinstance (by rfl) T.m_InvalidPermutations (s_v 0)) (sa_cons (s_isX T.xi_InvalidRow (by rfl) T.z_isinstance (by rfl) T.m_InvalidRow (s_v 0)) sa_nil)))) (sg_name nd_l_marks (i := 1) rfl (Or.inl rfl) (by decide)))
    (ss_cons (ss_asg (s_add (s_fz (s_v 1)) (s_lst (sa_cons (s_isX T.xi_InvalidRows (by rfl) T.z_isinstance (by rfl) T.m_InvalidRows (s_v 0)) (sa_cons (s_isX T.xi_InvalidRule (by rfl) T.z_isinstance (by rfl) T.m_InvalidRule (s_v 0)) sa_nil)))) (sg_name nd_l_marks (i := 1) rfl (Or.inl rfl) (by decide)))
    (ss_cons (ss_asg (s_add (s_fz (s_v 1)) (s_lst (sa_cons (s_isX T.xi_InvalidRules (by rfl) T.z_isinstance (by rfl) T.m_InvalidRules (s_v 0)) (sa_cons (s_isX T.xi_InvalidStream (by rfl) T.z_isinstance (by rfl) T.m_InvalidStream (s_v 0)) sa_nil)))) (sg_name nd_l_marks (i := 1) rfl (Or.inl rfl) (by decide)))
    (ss_cons (ss_asg (s_add (s_fz (s_v 1)) (s_lst (sa_cons (s_isX T.xi_InvalidTable (by rfl) T.z_isinstance (by rfl) T.m_InvalidTable (s_v 0)) (sa_cons (s_isX T.xi_InvalidText (by rfl) T.z_isinstance (by rfl) T.m_InvalidText (s_v 0)) sa_nil)))) (sg_name nd_l_marks (i := 1) rfl (Or.inl rfl) (by decide)))
    (ss_cons (ss_asg (s_add (s_fz (s_v 1)) (s_lst (sa_cons (s_isX T.xi_InvalidWide (by rfl) T.z_isinstance (by rfl) T.m_InvalidWide (s_v 0)) (sa_cons (s_isX T.xi_NotWhole (by rfl) T.z_isinstance (by rfl) T.m_NotWhole (s_v 0)) sa_nil)))) (sg_name nd_l_marks (i := 1) rfl (Or.inl rfl) (by decide)))
    (ss_cons (ss_asg (s_add (s_fz (s_v 1)) (s_lst (sa_cons (s_isX T.xi_NothingToUndo (by rfl) T.z_isinstance (by rfl) T.m_NothingToUndo (s_v 0)) (sa_cons (s_isX T.xi_OtherSize (by rfl) T.z_isinstance (by rfl) T.m_OtherSize (s_v 0)) sa_nil)))) (sg_name nd_l_marks (i := 1) rfl (Or.inl rfl) (by decide)))
    (ss_cons (ss_asg (s_add (s_fz (s_v 1)) (s_lst (sa_cons (s_isX T.xi_TooMany (by rfl) T.z_isinstance (by rfl) T.m_TooMany (s_v 0)) (sa_cons (s_isX T.xi_WouldGo (by rfl) T.z_isinstance (by rfl) T.m_WouldGo (s_v 0)) sa_nil)))) (sg_name nd_l_marks (i := 1) rfl (Or.inl rfl) (by decide)))
    (ss_one (ss_retv 1)))))))))))))
theorem fn_l_right {a : Addr} {fd : FuncData} (T : Txt P K mg) (F : FunD K "_law_right" "_law_right" (defArgs s_l_right) (defBody s_l_right) (defScope s_l_right) [] [] a fd) {a_l_fields_right : Addr} {fd_l_fields_right : FuncData} (G_l_fields_right : Fn P w K mg base ct 1 a_l_fields_right fd_l_fields_right ["_law_amount"] m_l_fields_right) (g_l_fields_right : mg "_law_fields_right" = some (.ref a_l_fields_right)) (k_l_fields_right : PySem.W.keepIn K (.ref a_l_fields_right) = true) {a_l_marks : Addr} {fd_l_marks : FuncData} (G_l_marks : Fn P w K mg base ct 1 a_l_marks fd_l_marks ["_law_e"] m_l_marks) (g_l_marks : mg "_law_marks" = some (.ref a_l_marks)) (k_l_marks : PySem.W.keepIn K (.ref a_l_marks) = true) {dbl_fields_right_1 : List Value} (bl_fields_right_1 : L2.Binds K fd_l_fields_right ["_law_amount"] dbl_fields_right_1) (vbl_fields_right_1 : Vals [] dbl_fields_right_1) {dbl_marks_1 : List Value} (bl_marks_1 : L2.Binds K fd_l_marks ["_law_e"] dbl_marks_1) (vbl_marks_1 : Vals [] dbl_marks_1) : Fn P w K mg base ct 2 a fd ["_law_message", "_law_amount"] m_l_right := by
  refine fn_ofD F sc_l_right (by decide) rfl fun cdv A outer s H E hr hgd => ?_
  exact (sss_pre (ss_cons (ss_asg (s_lst sa_nil) (sg_name nd_l_right (i := 2) rfl (Or.inl rfl) (by decide)))
    (ss_cons (ss_asg (s_add (s_fz (s_v 2)) (s_lst (sa_cons (s_xv0 T.t_InvalidBlock.ex T.m_InvalidBlock T.t_InvalidBlock.kp (by rfl) (s_fz (s_v 0))) (sa_cons (s_xv0 T.t_InvalidNumber.ex T.m_InvalidNumber T.t_InvalidNumber.kp (by rfl) (s_fz (s_v 0))) sa_nil)))) (sg_name nd_l_right (i := 2) rfl (Or.inl rfl) (by decide)))
    (ss_cons (ss_asg (s_add (s_fz (s_v 2)) (s_lst (sa_cons (s_xv0 T.t_InvalidOutcomes.ex T.m_InvalidOutcomes T.t_InvalidOutcomes.kp (by rfl) (s_fz (s_v 0))) (sa_cons (s_xv0 T.t_InvalidPermutation.ex T.m_InvalidPermutation T.t_InvalidPermutation.kp (by rfl) (s_fz (s_v 0))) sa_nil)))) (sg_name nd_l_right (i := 2) rfl (Or.inl rfl) (by decide)))
    (ss_cons (ss_asg (s_add (s_fz (s_v 2)) (s_lst (sa_cons (T.f_InvalidPermutations.elim fun _ h => s_xv1 h.1 hr T.m_InvalidPermutations T.z_super (by rfl) (s_fz (s_v 1))) (sa_cons (T.f_InvalidRow.elim fun _ h => s_xv1 h.1 hr T.m_InvalidRow T.z_super (by rfl) (s_fz (s_v 1))) sa_nil)))) (sg_name nd_l_right (i := 2) rfl (Or.inl rfl) (by decide)))
    (ss_cons (ss_asg (s_add (s_fz (s_v 2)) (s_lst (sa_cons (T.f_InvalidRows.elim fun _ h => s_xv1 h.1 hr T.m_InvalidRows T.z_super (by rfl) (s_fz (s_v 1))) (sa_cons (T.f_InvalidRule.elim fun _ h => s_xv1 h.1 hr T.m_InvalidRule T.z_super (by rfl) (s_fz (s_v 1))) sa_nil)))) (sg_name nd_l_right (i := 2) rfl (Or.inl rfl) (by decide)))
    (ss_cons (ss_asg (s_add (s_fz (s_v 2)) (s_lst (sa_cons (T.f_InvalidRules.elim fun _ h => s_xv1 h.1 hr T.m_InvalidRules T.z_super (by rfl) (s_fz (s_v 1))) (sa_cons (T.f_InvalidStream.elim fun _ h => s_xv1 h.1 hr T.m_InvalidStream T.z_super (by rfl) (s_fz (s_v 1))) sa_nil)))) (sg_name nd_l_right (i := 2) rfl (Or.inl rfl) (by decide)))
    (ss_cons (ss_asg (s_add (s_fz (s_v 2)) (s_lst (sa_cons (T.f_InvalidTable.elim fun _ h => s_xv1 h.1 hr T.m_InvalidTable T.z_super (by rfl) (s_fz (s_v 1))) (sa_cons (T.f_InvalidText.elim fun _ h => s_xv2 h hr T.m_InvalidText T.z_super (by rfl) (sa_cons (s_fz (s_v 1)) (sa_cons (s_add (s_fz (s_v 1)) s_int) sa_nil))) sa_nil)))) (sg_name nd_l_right (i := 2) rfl (Or.inl rfl) (by decide)))
    (ss_cons (ss_asg (s_add (s_fz (s_v 2)) (s_lst (sa_cons (s_xv0 T.t_InvalidWide.ex T.m_InvalidWide T.t_InvalidWide.kp (by rfl) (s_fz (s_v 0))) (sa_cons (T.f_NotWhole.elim fun _ h => s_xv1 h.1 hr T.m_NotWhole T.z_super (by rfl) (s_lst (sa_cons (s_fz (s_v 1)) (sa_cons (s_add (s_fz (s_v 1)) s_int) sa_nil)))) sa_nil)))) (sg_name nd_l_right (i := 2) rfl (Or.inl rfl) (by decide)))
    (ss_cons (ss_asg (s_add (s_fz (s_v 2)) (s_lst (sa_cons (s_xv0 T.t_NothingToUndo.ex T.m_NothingToUndo T.t_NothingToUndo.kp (by rfl) (s_fz (s_v 0))) (sa_cons (s_xv0 T.t_OtherSize.ex T.m_OtherSize T.t_OtherSize.kp (by rfl) (s_fz (s_v 0))) sa_nil)))) (sg_name nd_l_right (i := 2) rfl (Or.inl rfl) (by decide)))
    (ss_cons (ss_asg (s_add (s_fz (s_v 2)) (s_lst (sa_cons (T.f_TooMany.elim fun _ h => s_xv1 h.1 hr T.m_TooMany T.z_super (by rfl) (s_fz (s_v 1))) (sa_cons (T.f_WouldGo.elim fun _ h => s_xv1 h.1 hr T.m_WouldGo T.z_super (by rfl) (s_fz (s_v 1))) sa_nil)))) (sg_name nd_l_right (i := 2) rfl (Or.inl rfl) (by decide)))
    (ss_cons (ss_pre (ss_for rfl (i_range1 (by rfl) T.z_range (sa_cons s_int sa_nil)) (sg_name nd_l_right (i := 3) rfl (Or.inr rfl) (by decide)) (sss_tdy (ss_cons (ss_if (t_ne hr (s_call G_l_marks hgd (hr.mono (by decide)) (by rfl) g_l_marks k_l_marks bl_marks_1 vbl_marks_1 .nil (sc_val (s_fz (s_ix (s_v 2) (s_v 3))) sc_nil) rfl) (s_comp (own := [("_law_other", 4)]) rfl nd_l_right (i_range1 (by rfl) T.z_range (sa_cons s_int sa_nil)) (blkOk_by (N := N_l_right) (by kernel_rfl)) (fun n i => (sn_name nd_l_right (i := 4) rfl (by first | exact Or.inl rfl | exact Or.inr rfl) (others_own (by decide)))) (fun i => sts_nil) (fun i => (by exact (s_eq hr (s_v 4) (s_v 3)))))) (ss_one (ss_ret s_bl)) ss_nil)
    (ss_one (ss_if (w_pt (w_or (t_not (t_val (s_isX T.xi_GoesError (by rfl) T.z_isinstance (by rfl) T.m_GoesError (s_ix (s_v 2) (s_v 3))))) (w_or1 (t_not (t_val (s_isXB (tn := "ValueError") T.xi_ValueError (by rfl) T.z_isinstance (by rfl) T.z_ValueError PyProof.Rows.Boot.«ValueError» (by decide) (s_ix (s_v 2) (s_v 3)))))))) (ss_one (ss_ret s_bl)) ss_nil))))))
    (ss_one (ss_ret (s_and (s_call G_l_fields_right hgd (hr.mono (by decide)) (by rfl) g_l_fields_right k_l_fields_right bl_fields_right_1 vbl_fields_right_1 .nil (sc_lend 1 sc_nil) rfl) (s_one (s_notin hr s_bl (s_call G_l_marks hgd (hr.mono (by decide)) (by rfl) g_l_marks k_l_marks bl_marks_1 vbl_marks_1 .nil (sc_val (s_xv0 T.t_GoesError.ex T.m_GoesError T.t_GoesError.kp (by rfl) (s_fz (s_v 0))) sc_nil) rfl))))))))))))))))))
theorem fn_p_law {a : Addr} {fd : FuncData} (T : Txt P K mg) (F : FunD K "law" "law" (defArgs s_p_law) (defBody s_p_law) (defScope s_p_law) [] [] a fd) {a_l_bag : Addr} {fd_l_bag : FuncData} (G_l_bag : Fn P w K mg base ct 1 a_l_bag fd_l_bag ["_law_cell", "_law_k"] m_l_bag) (g_l_bag : mg "_law_bag" = some (.ref a_l_bag)) (k_l_bag : PySem.W.keepIn K (.ref a_l_bag) = true) {a_l_draw : Addr} {fd_l_draw : FuncData} (G_l_draw : Fn P w K mg base ct 1 a_l_draw fd_l_draw ["_law_bag_here", "_law_many"] m_l_draw) (g_l_draw : mg "_law_draw" = some (.ref a_l_draw)) (k_l_draw : PySem.W.keepIn K (.ref a_l_draw) = true) {a_l_right : Addr} {fd_l_right : FuncData} (G_l_right : Fn P w K mg base ct 2 a_l_right fd_l_right ["_law_message", "_law_amount"] m_l_right) (g_l_right : mg "_law_right" = some (.ref a_l_right)) (k_l_right : PySem.W.keepIn K (.ref a_l_right) = true) {dbl_bag_2 : List Value} (bl_bag_2 : L2.Binds K fd_l_bag ["_law_cell", "_law_k"] dbl_bag_2) (vbl_bag_2 : Vals [] dbl_bag_2) {dbl_draw_2 : List Value} (bl_draw_2 : L2.Binds K fd_l_draw ["_law_bag_here", "_law_many"] dbl_draw_2) (vbl_draw_2 : Vals [] dbl_draw_2) {dbl_right_2 : List Value} (bl_right_2 : L2.Binds K fd_l_right ["_law_message", "_law_amount"] dbl_right_2) (vbl_right_2 : Vals [] dbl_right_2) : Fn P w K mg base ct 3 a fd ["_law_script"] m_p_law := by
  refine fn_ofD F sc_p_law (by decide) rfl fun cdv A outer s H E hr hgd => ?_
  exact (sss_pre (ss_cons (ss_asg (s_add (s_slc (s_fz (s_v 0)) so_none (so_some s_int)) (s_mul (s_lst (sa_cons s_int sa_nil)) (s_ty call_int1 kInt_op (by rfl) T.z_int (by decide +kernel) (by decide) (by decide) (sa_cons (s_eq hr (s_v 0) (s_lst sa_nil)) sa_nil)))) (sg_name nd_p_law (i := 1) rfl (Or.inl rfl) (by decide)))
    (ss_cons (ss_pre (ss_for rfl (i_range1 (by rfl) T.z_range (sa_cons (s_bi call_len4 kLen_op (by rfl) T.z_len (by decide +kernel) (by decide) (by decide) (sa_cons (s_v 1) sa_nil)) sa_nil)) (sg_name nd_p_law (i := 2) rfl (Or.inl rfl) (by decide)) (sss_tdy (ss_cons (ss_asg (s_call G_l_bag hgd (hr.mono (by decide)) (by rfl) g_l_bag k_l_bag bl_bag_2 vbl_bag_2 .nil (sc_val (s_fz (s_ix (s_v 1) (s_v 2))) (sc_lend 2 sc_nil)) rfl) (sg_name nd_p_law (i := 3) rfl (Or.inl rfl) (by decide)))
    (ss_cons (ss_asg (s_mulT (s_ix s_str (s_call G_l_draw hgd (hr.mono (by decide)) (by rfl) g_l_draw k_l_draw bl_draw_2 vbl_draw_2 .nil (sc_lend 3 (sc_val s_int sc_nil)) rfl)) (s_call G_l_draw hgd (hr.mono (by decide)) (by rfl) g_l_draw k_l_draw bl_draw_2 vbl_draw_2 .nil (sc_lend 3 (sc_val s_int sc_nil)) rfl)) (sg_name nd_p_law (i := 4) rfl (Or.inl rfl) (by decide)))
    (ss_one (ss_if (t_not (t_val (s_call G_l_right hgd (hr.mono (by decide)) (by rfl) g_l_right k_l_right bl_right_2 vbl_right_2 .nil (sc_lend 4 (sc_val (s_call G_l_draw hgd (hr.mono (by decide)) (by rfl) g_l_draw k_l_draw bl_draw_2 vbl_draw_2 .nil (sc_lend 3 (sc_val s_int sc_nil)) rfl) sc_nil)) rfl))) (ss_one (ss_ret s_bl)) ss_nil)))))))
    (ss_one (ss_ret s_bl)))))
end
end Lw
set_option maxHeartbeats 4000000
namespace Vs
open PySem (Str PyData)
/-! lists of whole numbers -/
theorem nb_di (l : List Int) : (D.lst (dints l)).nb = true := by
  simp only [D.nb]
  induction l with
  | nil => rfl
  | cons a l ih => exact (show nbAll (D.int a :: dints l) = true by simp only [nbAll, D.nb, ih, Bool.and_true])
theorem shp_di (l : List Int) : (D.lst (dints l)).shp = true := (Shp.lst (j := 0) fun d hd => by
  obtain ⟨i, _, rfl⟩ := List.mem_map.mp hd
  exact .int).shp
theorem flat_di (l : List Int) : (D.lst (dints l)).flat = true := by
  simp only [D.flat]
  induction l with
  | nil => rfl
  | cons a l ih => exact (show flatAll (D.int a :: dints l) = true by simp only [flatAll, D.flat, ih, Bool.and_true])
theorem di_inj : ∀ {l k : List Int}, dints l = dints k → l = k
  | [], [], _ => rfl
  | [], _ :: _, h => by cases h
  | _ :: _, [], h => by cases h
  | a :: l, b :: k, h => by
    have h : D.int a :: dints l = D.int b :: dints k := h
    injection h with h1 h2
    injection h1 with h1
    rw [h1, di_inj h2]
theorem e_eqDi {p q : Bool} {m n : Nat} {l k : List Int} : kEq ⟨p, m, .lst (dints l)⟩ ⟨q, n, .lst (dints k)⟩ = some (vb (decide (l = k))) := by
  show (if D.shp (.lst (dints l)) = true ∧ D.shp (.lst (dints k)) = true then some (vb (D.eqv (.lst (dints l)) (.lst (dints k)))) else none) = _
  rw [if_pos ⟨shp_di l, shp_di k⟩]
  congr 1
  congr 1
  congr 1
  rw [Bool.eq_iff_iff, eqv_iff (nb_di l) (nb_di k) (flat_di l), decide_eq_true_eq]
  exact ⟨fun h => by injection h with h; exact di_inj h, fun h => by rw [h]⟩
theorem di_len (l : List Int) : (dints l).length = l.length := List.length_map ..
theorem di_take (l : List Int) (k : Nat) : (dints l).take k = dints (l.take k) := List.map_take.symm
theorem di_append (l k : List Int) : dints (l ++ k) = dints l ++ dints k := List.map_append ..
theorem enu_get : ∀ (l : List D) (n i : Nat), (enumD n l)[i]? = l[i]?.map fun d => .tup [.int ((n + i : Nat) : Int), d]
  | [], _, _ => rfl
  | d :: l, n, 0 => by simp [enumD]
  | d :: l, n, i + 1 => by
    rw [enumD, List.getElem?_cons_succ, enu_get l (n + 1) i, List.getElem?_cons_succ, show n + 1 + i = n + (i + 1) by omega]
theorem enu_len : ∀ (l : List D) (n : Nat), (enumD n l).length = l.length
  | [], _ => rfl
  | d :: l, n => by rw [enumD, List.length_cons, enu_len l (n + 1), List.length_cons]
/-- powers that are told -/
theorem pwr {a : Int} {k : Nat} {p q : Bool} {m n : Nat} (ha : a.natAbs < 2 ^ 64 := by decide) (hk : k ≤ 100 := by decide) : kPow ⟨p, m, .int a⟩ ⟨q, n, .int (k : Int)⟩ = some (vi (a ^ k)) := by
  rw [e_powI (small_big (by omega) (by omega)) (by omega) (by omega), Int.toNat_natCast]
theorem p18 {p q : Bool} {m n : Nat} : kPow ⟨p, m, .int 10⟩ ⟨q, n, .int 18⟩ = some (vi 1000000000000000000) := by
  have := pwr (a := 10) (k := 18) (p := p) (q := q) (m := m) (n := n)
  simpa using this
theorem p17 {p q : Bool} {m n : Nat} : kPow ⟨p, m, .int 10⟩ ⟨q, n, .int 17⟩ = some (vi 100000000000000000) := by
  have := pwr (a := 10) (k := 17) (p := p) (q := q) (m := m) (n := n)
  simpa using this
theorem p9 {p q : Bool} {m n : Nat} : kPow ⟨p, m, .int 10⟩ ⟨q, n, .int 9⟩ = some (vi 1000000000) := by
  have := pwr (a := 10) (k := 9) (p := p) (q := q) (m := m) (n := n)
  simpa using this
theorem p7 {p q : Bool} {m n : Nat} : kPow ⟨p, m, .int 10⟩ ⟨q, n, .int 7⟩ = some (vi 10000000) := by
  have := pwr (a := 10) (k := 7) (p := p) (q := q) (m := m) (n := n)
  simpa using this
theorem p6 {p q : Bool} {m n : Nat} : kPow ⟨p, m, .int 10⟩ ⟨q, n, .int 6⟩ = some (vi 1000000) := by
  have := pwr (a := 10) (k := 6) (p := p) (q := q) (m := m) (n := n)
  simpa using this
theorem now_some_thn {a ρ : Env} {o : Option Env} : now (thn (some a) o) ρ = now o a := by cases o <;> rfl
theorem p30 {p q : Bool} {m n : Nat} : kPow ⟨p, m, .int 10⟩ ⟨q, n, .int 30⟩ = some (vi 1000000000000000000000000000000) := by
  have := pwr (a := 10) (k := 30) (p := p) (q := q) (m := m) (n := n)
  simpa using this
end Vs
set_option maxHeartbeats 4000000
namespace Vs
open PySem (Str PyData)
/-- a comprehension by whose items a state goes on -/
theorem compL_st {σ α : Type} {own : List Nat} {g : MG} {e : M} {B c : Nat} (ok : Nat → σ → Prop) (E : σ → Env) (enc : α → VV) (good : Nat → α → Prop) (hs : ∀ x, (enc x).stable = true) :
    ∀ (ds : List D) (b : Nat) (acc : List α) (s : σ) (N : Nat),
      (∀ i d s N, ds[i]? = some d → ok N s → N < B → ∃ x s1 ρ1, ok (N + c) s1 ∧ good (b + i) x ∧ g ⟨false, 0, d⟩ (E s) = .nx ρ1 ∧ ((e ρ1 = .ok (enc x) none ∧ E s1 = E s) ∨ ∃ ρ2, e ρ1 = .ok (enc x) (some ρ2) ∧ wipeE own ρ2 = E s1)) →
      ok N s → N + c * ds.length < B →
      ∃ (xs : List α) (s' : σ) (o : Option Env), xs.length = ds.length ∧ (∀ i x, xs[i]? = some x → good (b + i) x) ∧ ok (N + c * ds.length) s' ∧ compL own g yes e ds (E s) (acc.map enc) = .ok ((acc ++ xs).map enc) o ∧ now o (E s) = E s'
  | [], b, acc, s, N, _, h, hN => ⟨[], s, none, rfl, by simp, h, by rw [List.append_nil]; rfl, rfl⟩
  | d :: ds, b, acc, s, N, hd, h, hN => by
    have e0 : N + c * (d :: ds).length = N + c + c * ds.length := by rw [List.length_cons, Nat.mul_succ]; omega
    rw [e0] at hN ⊢
    obtain ⟨x, s1, ρ1, a1, a2, a3, a4⟩ := hd 0 d s N rfl h (by omega)
    obtain ⟨xs, s2, o, b1, b2, b3, b4, b5⟩ := compL_st (own := own) (g := g) (e := e) ok E enc good hs ds (b + 1) (acc ++ [x]) s1 (N + c) (fun i d' s N hi => by
      have := hd (i + 1) d' s N (by simpa using hi)
      rw [show b + (i + 1) = b + 1 + i by omega] at this
      exact this) a1 hN
    rw [List.map_append, List.map_singleton, List.append_assoc, List.singleton_append] at b4
    have hy : yes ρ1 = .ok true none := rfl
    have hg : ∀ i y, (x :: xs)[i]? = some y → good (b + i) y := fun i y hi => by
      cases i with
      | zero =>
        have : x = y := by simpa using hi
        rw [← this]; exact a2
      | succ i =>
        have := b2 i y (by simpa using hi)
        rw [show b + 1 + i = b + (i + 1) by omega] at this
        exact this
    rcases a4 with ⟨a4, a5⟩ | ⟨ρ2, a4, a5⟩
    · refine ⟨x :: xs, s2, o, by rw [List.length_cons, b1, List.length_cons], hg, b3, ?_, by rw [← a5]; exact b5⟩
      unfold compL
      rw [a3]
      simp only [hy, now_none, a4, hs, if_true, thn_none, Option.map_none, R.aft_none]
      rw [← a5]
      exact b4
    · refine ⟨x :: xs, s2, Vs.thn (some (E s1)) o, by rw [List.length_cons, b1, List.length_cons], hg, b3, ?_, by rw [now_some_thn]; exact b5⟩
      unfold compL
      rw [a3]
      simp only [hy, now_none, a4, hs, if_true, thn_some, Option.map_some, a5, now_some, b4, R.aft_ok]
theorem rng_at {a : Int} {n i : Nat} {d : D} (h : (rng a (a + n))[i]? = some d) : d = .int (a + i) ∧ i < n := by
  obtain ⟨h1, h2⟩ := rng_get h
  exact ⟨h1, by omega⟩
theorem rng_at0 {n i : Nat} {d : D} (h : (rng 0 (n : Int))[i]? = some d) : d = .int (i : Int) ∧ i < n := by
  obtain ⟨h1, h2⟩ := rng_get h
  exact ⟨by rw [h1, Int.zero_add], by omega⟩
theorem rng_ints' {a b : Int} : ∀ d ∈ rng a b, ∃ i : Int, d = .int i := fun d hd => by
  obtain ⟨k, hk⟩ := List.getElem?_of_mem hd
  obtain ⟨rfl, _⟩ := rng_get hk
  exact ⟨_, rfl⟩
end Vs
set_option maxHeartbeats 4000000
namespace Lw
/-! new: l_bag l_draw l_marks l_fields_right l_right -/
open PySem Vs
/-! draws -/
structure Bg where
  a : Int
  c : Int
def Bg.D (s : Bg) : D := .lst [.int s.a, .int s.c]
@[simp] theorem Bg.D_imm (s : Bg) : s.D.imm = false := rfl
structure Bag (N : Nat) (s : Bg) : Prop where
  a0 : 0 ≤ s.a
  c0 : 0 ≤ s.c
  c1 : s.c ≤ 3000 + N
theorem bag_eq {x : Int} {k m m' : Nat} (hk : k < 70) : ∃ s, Bag 0 s ∧ m_l_bag [(m, .int x), (m', .int (k : Int))] = .ok (1, s.D) [some (0, .int x), some (0, .int (k : Int))] := by
  have e := e_mulS (p := false) (q := true) (m := 0) (n := 0) (i := 37) (j := (k : Int)) (by omega)
  have e' := e_mulS (p := false) (q := false) (m := 0) (n := 0) (i := 37) (j := (k : Int)) (by omega)
  by_cases hx : x < 0
  · refine ⟨⟨-x, 37 * k + 18⟩, ⟨by show 0 ≤ -x; omega, by show 0 ≤ 37 * (k : Int) + 18; omega, by show 37 * (k : Int) + 18 ≤ _; omega⟩, ?_⟩
    unfold m_l_bag fnM b_l_bag Bg.D
    simp [e_pre, e_even, hx, e, e', VV.kept, VV.stable]
  · refine ⟨⟨x, 37 * k⟩, ⟨by show 0 ≤ x; omega, by show 0 ≤ 37 * (k : Int); omega, by show 37 * (k : Int) ≤ _; omega⟩, ?_⟩
    unfold m_l_bag fnM b_l_bag Bg.D
    simp [e_pre, e_even, hx, e, e', VV.kept, VV.stable]
theorem wdraw {N n m : Nat} {s : Bg} (h : Bag N s) (hN : N < 1000000) (hn : 0 < n) (hn2 : n < 1000000000000000000000) : ∃ w s', w < n ∧ Bag (N + 1) s' ∧ m_l_draw [(1, s.D), (m, .int (n : Int))] = .ok (0, .int (w : Nat)) [some (1, s'.D), some (m, .int (n : Int))] := by
  obtain ⟨h1, h2, h3⟩ := h
  obtain ⟨a, c⟩ := s
  simp only at h1 h2 h3
  have hn' : (0 : Int) < n := by omega
  have hn3 : (n : Int).natAbs < big := big_of (k := 300) (by omega) (by decide)
  by_cases ha : 1000000000000000000 ≤ a
  · have r1 : 0 ≤ a % (n : Int) := Int.emod_nonneg _ (by omega)
    have r2 : a % (n : Int) < n := Int.emod_lt_of_pos _ hn'
    refine ⟨(a % n).toNat, ⟨a / n, c + 1⟩, by omega, ⟨Int.ediv_nonneg h1 (by omega), by show 0 ≤ c + 1; omega, by show c + 1 ≤ _; omega⟩, ?_⟩
    rw [Int.toNat_of_nonneg r1]
    unfold m_l_draw fnM b_l_draw Bg.D
    simp [e_pre, e_even, e_augC, ha, p18, e_modI hn', e_divI hn' hn3, nix]
  · have c1 : (c + 1).natAbs < 18446744073709551616 := by omega
    have e1 := fun p q m n => e_mulS (p := p) (q := q) (m := m) (n := n) (i := 104729) (j := c + 1) c1
    have e2 := fun p q m n => e_mulS (p := p) (q := q) (m := m) (n := n) (i := 40692) (j := c + 1) c1
    have sm : ∀ (z k : Int), 0 < k → k ≤ 2147483587 → (z % k).natAbs < 18446744073709551616 := fun z k hk hk2 => by
      have := Int.emod_nonneg z (show k ≠ 0 by omega)
      have := Int.emod_lt_of_pos z hk
      omega
    have e3 := fun z p q m n => e_mulS (p := p) (q := q) (m := m) (n := n) (i := z % 2147483587) (j := z % 2147483587) (sm z _ (by omega) (by omega))
    have e4 := fun z p q m n => e_mulS (p := p) (q := q) (m := m) (n := n) (i := z % 2147483563) (j := z % 2147483563) (sm z _ (by omega) (by omega))
    have b4 : (8 : Int).natAbs < big := small_big (by decide) (by decide)
    have key : ∃ x : Int, m_l_draw [(1, Bg.D ⟨a, c⟩), (m, .int (n : Int))] = .ok (0, .int (x % n)) [some (1, Bg.D ⟨a, c + 1⟩), some (m, .int (n : Int))] := by
      unfold m_l_draw fnM b_l_draw Bg.D
      simp [e_pre, e_even, e_augC, ha, p18, e_modI, e_modI hn', e1, e2, e3, e4, e_divI (by decide : (0:Int) < 8) b4, nix]
      exact ⟨_, rfl⟩
    obtain ⟨x, e⟩ := key
    have r1 : 0 ≤ x % (n : Int) := Int.emod_nonneg _ (by omega)
    have r2 : x % (n : Int) < n := Int.emod_lt_of_pos _ hn'
    refine ⟨(x % n).toNat, ⟨a, c + 1⟩, by omega, ⟨h1, by show 0 ≤ c + 1; omega, by show c + 1 ≤ _; omega⟩, ?_⟩
    rw [Int.toNat_of_nonneg r1]
    exact e
/-! classes -/
theorem cOf_iff {a b : Nat} : cOf a = cOf b ↔ a = b := ⟨cOf_inj, fun h => by rw [h]⟩
/-- the classes in the law's order -/
def cl : List Nat := [c_InvalidBlock, c_InvalidNumber, c_InvalidOutcomes, c_InvalidPermutation, c_InvalidPermutations, c_InvalidRow, c_InvalidRows, c_InvalidRule, c_InvalidRules, c_InvalidStream, c_InvalidTable, c_InvalidText, c_InvalidWide, c_NotWhole, c_NothingToUndo, c_OtherSize, c_TooMany, c_WouldGo]
theorem xvL_of {c : Nat} (h : c ∈ c_GoesError :: cl) : cOf c ∈ xvL := by
  unfold cl at h
  unfold xvL
  simp only [List.mem_cons, List.not_mem_nil, or_false] at h ⊢
  rcases h with h | h | h | h | h | h | h | h | h | h | h | h | h | h | h | h | h | h | h <;> subst h <;> simp
theorem isx {d : D} {c x : Nat} {p : Bool} {m : Nat} (h : xvC d = some (cOf c)) (hc : c ∈ c_GoesError :: cl) : kIsX [cOf x] xvL ⟨p, m, d⟩ = some (vb (decide (c = x))) := by
  unfold kIsX
  simp only [h, Option.bind_some, List.mem_singleton, xvL_of hc, if_true, cOf_iff]
  by_cases e : c = x
  · rw [if_pos e, decide_eq_true e]
  · rw [if_neg e, decide_eq_false e]
theorem isxG {d : D} {c : Nat} {p : Bool} {m : Nat} (h : xvC d = some (cOf c)) (hc : c ∈ c_GoesError :: cl) : kIsX xvL xvL ⟨p, m, d⟩ = some (vb true) := by
  unfold kIsX
  simp only [h, Option.bind_some, xvL_of hc, if_true]
def mks (c : Nat) : List D := cl.map fun x => .bl (decide (c = x))
theorem marks_eq {d : D} {c : Nat} (h : xvC d = some (cOf c)) (hc : c ∈ c_GoesError :: cl) : m_l_marks [(0, d)] = .ok (1, .lst (mks c)) [some (0, d)] := by
  have e := fun x p m => isx (x := x) (p := p) (m := m) h hc
  have ea := fun (m n : Nat) (l k : List D) (h : l.length + k.length ≤ 16777216) => e_addL (p := false) (q := false) (m := m) (n := n) (l := l) (k := k) (.inl rfl) (.inl rfl) h
  unfold m_l_marks fnM b_l_marks mks cl
  unfold xi_InvalidBlock xi_InvalidNumber xi_InvalidOutcomes xi_InvalidPermutation xi_InvalidPermutations xi_InvalidRow xi_InvalidRows xi_InvalidRule xi_InvalidRules xi_InvalidStream xi_InvalidTable xi_InvalidText xi_InvalidWide xi_NotWhole xi_NothingToUndo xi_OtherSize xi_TooMany xi_WouldGo
  generalize c_InvalidBlock = c1 at *
  simp [e_pre, e_even, e, ea, VV.kept, VV.stable]
end Lw
set_option maxHeartbeats 4000000
namespace Lw
open PySem Vs
/-! fields -/
theorem fx_index {p : Bool} {m c : Nat} {d : D} (h : cOf c ∈ xf_index) : kFldX xf_index "index" ⟨p, m, xv1 (cOf c) [("index", d)]⟩ = some ⟨false, 0, d⟩ := by
  unfold kFldX xv1 xvF
  simp [h]
theorem fx_state {p : Bool} {m : Nat} {d : D} : kFldX xf_state "state" ⟨p, m, xv1 (cOf c_InvalidTable) [("state", d)]⟩ = some ⟨false, 0, d⟩ := by
  unfold kFldX xv1 xvF xf_state
  simp
theorem fx_limit {p : Bool} {m : Nat} {d : D} : kFldX xf_limit "limit" ⟨p, m, xv1 (cOf c_TooMany) [("limit", d)]⟩ = some ⟨false, 0, d⟩ := by
  unfold kFldX xv1 xvF xf_limit
  simp
theorem fx_block {p : Bool} {m : Nat} {d : D} : kFldX xf_block "block" ⟨p, m, xv1 (cOf c_WouldGo) [("block", d)]⟩ = some ⟨false, 0, d⟩ := by
  unfold kFldX xv1 xvF xf_block
  simp
theorem fx_places {p : Bool} {m : Nat} {d : D} : kFldX xf_places "places" ⟨p, m, xv1 (cOf c_NotWhole) [("places", d)]⟩ = some ⟨false, 0, d⟩ := by
  unfold kFldX xv1 xvF xf_places
  simp
theorem fx_line {p : Bool} {m : Nat} {d e : D} : kFldX xf_line "line" ⟨p, m, xv1 (cOf c_InvalidText) [("word", e), ("line", d)]⟩ = some ⟨false, 0, d⟩ := by
  unfold kFldX xv1 xvF xf_line
  have : (("line" : PySem.Str) == "word") = false := by decide
  simp [List.lookup, this]
theorem fx_word {p : Bool} {m : Nat} {d e : D} : kFldX xf_word "word" ⟨p, m, xv1 (cOf c_InvalidText) [("word", e), ("line", d)]⟩ = some ⟨false, 0, e⟩ := by
  unfold kFldX xv1 xvF xf_word
  simp
theorem fx1 : cOf c_InvalidPermutations ∈ xf_index := by unfold xf_index; simp
theorem fx2 : cOf c_InvalidRule ∈ xf_index := by unfold xf_index; simp
theorem fx3 : cOf c_InvalidRules ∈ xf_index := by unfold xf_index; simp
theorem fx4 : cOf c_InvalidRow ∈ xf_index := by unfold xf_index; simp
theorem fx5 : cOf c_InvalidRows ∈ xf_index := by unfold xf_index; simp
theorem fx6 : cOf c_InvalidStream ∈ xf_index := by unfold xf_index; simp
@[simp] theorem e_xv0 {c : Str} {x : VV} : kXv0 c x = some ⟨false, 9, xv0 c⟩ := (rfl)
@[simp] theorem e_xv1 {c f : Str} {x : VV} : kXv1 c f x = if x.stable = true then some ⟨false, 9, xv1 c [(f, x.d)]⟩ else none := (rfl)
@[simp] theorem e_xv2 {c f g : Str} {x y : VV} : kXv2 c f g [x, y] = if x.d.imm = true ∧ y.d.imm = true then some ⟨false, 9, xv1 c [(g, y.d), (f, x.d)]⟩ else none := (rfl)
@[simp] theorem imm_xv0 {c : Str} : (xv0 c).imm = false := (rfl)
@[simp] theorem imm_xv1 {c : Str} {fs : List (Str × D)} : (xv1 c fs).imm = false := (rfl)
theorem fields_eq {a : Nat} (ha : a < 100) : ∃ o, m_l_fields_right [(0, .int (a : Int))] = .ok (0, .bl true) [o] := by
  have ea := fun (m n : Nat) (l k : List D) (h : l.length + k.length ≤ 16777216) => e_addL (p := false) (q := false) (m := m) (n := n) (l := l) (k := k) (.inl rfl) (.inl rfl) h
  have n1 := fun p' q x y => e_neSame (p := p') (q := q) (m := x) (n := y) (shp_dn [a, a + 1])
  have n2 := fun p' q x y => e_eqSame (p := p') (q := q) (m := x) (n := y) (shp_dn (List.replicate 18 a))
  have n3 := fun p => e_rep (m := 0) (d := .int (a : Int)) (n := 18) (k := 0) (p := p) (by omega)
  have d1 : dnat [a, a + 1] = [.int (a : Int), .int ((a : Int) + 1)] := rfl
  have d2 : dnat (List.replicate 18 a) = List.replicate 18 (.int (a : Int)) := dnat_replicate ..
  rw [d1] at n1
  rw [d2] at n2
  have n3 : ∀ p, kMul ⟨false, 1, .lst [.int (a : Int)]⟩ ⟨p, 0, .int 18⟩ = some ⟨false, 1, .lst (List.replicate 18 (.int (a : Int)))⟩ := n3
  generalize (a : Int) = i at *
  have r : List.replicate 18 (D.int i) = [.int i, .int i, .int i, .int i, .int i, .int i, .int i, .int i, .int i, .int i, .int i, .int i, .int i, .int i, .int i, .int i, .int i, .int i] := rfl
  rw [r] at n2 n3
  refine ⟨some (0, .int i), ?_⟩
  unfold m_l_fields_right fnM b_l_fields_right
  simp [e_pre, e_even, ea, n1, n2, n3, fx_index, fx1, fx2, fx3, fx4, fx5, fx6, fx_state, fx_limit, fx_block, fx_places, fx_line, fx_word, VV.kept, VV.stable]
/-! one of each -/
section
variable {t : Str} {a : Int}
def obs (t : Str) (a : Int) : List D := [xv0 (cOf c_InvalidBlock), xv0 (cOf c_InvalidNumber), xv0 (cOf c_InvalidOutcomes), xv0 (cOf c_InvalidPermutation),
  xv1 (cOf c_InvalidPermutations) [("index", .int a)], xv1 (cOf c_InvalidRow) [("index", .int a)], xv1 (cOf c_InvalidRows) [("index", .int a)], xv1 (cOf c_InvalidRule) [("index", .int a)],
  xv1 (cOf c_InvalidRules) [("index", .int a)], xv1 (cOf c_InvalidStream) [("index", .int a)], xv1 (cOf c_InvalidTable) [("state", .int a)], xv1 (cOf c_InvalidText) [("word", .int (a + 1)), ("line", .int a)],
  xv0 (cOf c_InvalidWide), xv1 (cOf c_NotWhole) [("places", .lst [.int a, .int (a + 1)])], xv0 (cOf c_NothingToUndo), xv0 (cOf c_OtherSize), xv1 (cOf c_TooMany) [("limit", .int a)], xv1 (cOf c_WouldGo) [("block", .int a)]]
theorem xvC0 {c : Str} : xvC (xv0 c) = some c := by unfold xvC xv0; simp
theorem xvC1 {c : Str} {fs : List (Str × D)} : xvC (xv1 c fs) = some c := by unfold xvC xv1; simp
theorem obs_map : (obs t a).map xvC = cl.map fun c => some (cOf c) := by
  unfold obs cl
  simp [xvC0, xvC1]
theorem obs_at {k : Nat} (hk : k < 18) : ∃ d c, atD (obs t a) (k : Int) = some d ∧ cl[k]? = some c ∧ xvC d = some (cOf c) := by
  have h1 : (obs t a).length = 18 := rfl
  have h2 : cl.length = 18 := rfl
  have hm := obs_map (t := t) (a := a)
  have e := congrArg (fun l => l[k]?) hm
  simp only [List.getElem?_map] at e
  rw [List.getElem?_eq_getElem (by rw [h1]; exact hk), List.getElem?_eq_getElem (by rw [h2]; exact hk)] at e
  simp only [Option.map_some, Option.some.injEq] at e
  exact ⟨_, _, at_nat (by rw [h1]; exact hk), List.getElem?_eq_getElem (by rw [h2]; exact hk), e⟩
theorem mks_at : ∀ k < 18, ∀ c, cl[k]? = some c → (cl.map fun x => decide (c = x)) = (List.range 18).map fun j => decide (j = k) := by
  have h : ∀ k < 18, (cl.map fun x => decide ((cl[k]?).getD 0 = x)) = (List.range 18).map fun j => decide (j = k) := by decide
  intro k hk c hc
  have := h k hk
  rw [hc] at this
  exact this
theorem shp_bls (l : List Bool) : D.shp (.lst (l.map D.bl)) = true := (Shp.lst (j := 0) fun d hd => by
  obtain ⟨b, _, rfl⟩ := List.mem_map.mp hd
  exact Shp.bl).shp
theorem in_all {k c : Nat} (hc : cl[k]? = some c) : c ∈ c_GoesError :: cl := List.mem_cons_of_mem _ (List.mem_of_getElem? hc)
def ER (t : Str) (a : Int) (x : Option PV) : Vs.Env := [some (0, .str t), some (0, .int a), some (0, .lst (obs t a)), x, none]
theorem r_turn {k : Nat} (hk : k < 18) : q_l_right_0 (ER t a (some (0, .int (k : Int)))) = .nx (ER t a none) := by
  obtain ⟨d, c, h1, h2, h3⟩ := obs_at (t := t) (a := a) hk
  have hc := in_all h2
  have e1 := marks_eq h3 hc
  have e2 := fun p m => isxG (p := p) (m := m) h3 hc
  have hm : mks c = ((List.range 18).map fun j => decide (j = k)).map D.bl := by
    rw [← mks_at k hk c h2, List.map_map]
    rfl
  rw [hm] at e1
  have e3 : ∀ a0 a1 a2 a3 : Option PV, look [a0, a1, a2, a3, none] 3 = some (0, .int (k : Int)) → compL [4] (gname 4) yes (two (v 4) (v 3) kEq) (rng 0 18) [a0, a1, a2, a3, none] [] = .ok ((List.range 18).map fun (j : Nat) => vb (decide (j = k))) none := fun a0 a1 a2 a3 h => by
    have e := compL_map (own := [4]) (g := gname 4) (e := two (v 4) (v 3) kEq) (f := fun (j : Nat) => D.int (0 + (j : Int))) (k := fun (j : Nat) => vb (decide (j = k))) (List.range 18) [a0, a1, a2, a3, none] [] (fun j hj => by
      refine ⟨[a0, a1, a2, a3, some (0, .int (0 + (j : Int)))], rfl, ?_, rfl⟩
      have h : a3 = some (0, .int (k : Int)) := h
      subst h
      have e : ((j : Int) = (k : Int)) ↔ j = k := by omega
      simp [e])
    exact e
  have e4 : kLst ((List.range 18).map fun (j : Nat) => vb (decide (j = k))) = some ⟨false, 1, .lst (((List.range 18).map fun j => decide (j = k)).map D.bl)⟩ := by
    rw [kLst_imm (fun x hx => by obtain ⟨j, _, rfl⟩ := List.mem_map.mp hx; rfl) (by simp [lim_num]), List.map_map, List.map_map]
    rfl
  have n1 := fun p' q x y => e_neSame (p := p') (q := q) (m := x) (n := y) (shp_bls ((List.range 18).map fun j => decide (j = k)))
  have e5 := e_range1 (p := false) (m := 0) (j := 18) (by decide) (by decide)
  unfold ER
  unfold q_l_right_0 xi_GoesError xi_ValueError
  rw [show ([cOf c_GoesError, cOf c_InvalidPermutation, cOf c_InvalidNumber, cOf c_InvalidWide, cOf c_InvalidOutcomes, cOf c_InvalidBlock, cOf c_OtherSize, cOf c_NothingToUndo, cOf c_InvalidPermutations, cOf c_InvalidRule, cOf c_InvalidRules, cOf c_InvalidRow, cOf c_InvalidRows, cOf c_InvalidStream, cOf c_InvalidTable, cOf c_NotWhole, cOf c_TooMany, cOf c_WouldGo, cOf c_InvalidText] : List Str) = xvL from rfl]
  generalize ((List.range 18).map fun j => decide (j = k)).map D.bl = bs at *
  generalize ((List.range 18).map fun (j : Nat) => vb (decide (j = k))) = bv at *
  generalize obs t a = ob at *
  simp [e_tdy, e_even, h1, e1, e2, e3, e4, e5, n1, VV.kept, VV.stable]
theorem r_loop : w_l_right_0 (ER t a none) = .nx (ER t a none) := by
  have h := forL_eq (g := gname 3) (b := q_l_right_0) (rng 0 ((18 : Nat) : Int)) (fun _ => ER t a none) fun j d hd => by
    obtain ⟨rfl, hj⟩ := rng_at0 hd
    have := r_turn (t := t) (a := a) hj
    unfold ER at *
    generalize q_l_right_0 = q0 at *
    simp [this]
  have e5 := e_range1 (p := false) (m := 0) (j := 18) (by decide) (by decide)
  have h : forL (gname 3) q_l_right_0 (rng 0 18) (ER t a none) = .nx (ER t a none) := h
  unfold ER at *
  unfold w_l_right_0
  generalize q_l_right_0 = q0 at *
  generalize obs t a = ob at *
  simp [e_pre, e_even, e5, h]
end
end Lw
set_option maxHeartbeats 4000000
namespace Lw
open PySem Vs
section
variable {t : Str} {a : Int}
theorem r_build : (sq t_l_right_0 (sq t_l_right_1 (sq t_l_right_2 (sq t_l_right_3 (sq t_l_right_4 (sq t_l_right_5 (sq t_l_right_6 (sq t_l_right_7 (sq t_l_right_8 t_l_right_9))))))))) [some (0, .str t), some (0, .int a), none, none, none] = .nx [some (0, .str t), some (0, .int a), some (1, .lst (obs t a)), none, none] := by
  have ea := fun (m n : Nat) (l k : List D) (h : l.length + k.length ≤ 16777216) => e_addL (p := false) (q := false) (m := m) (n := n) (l := l) (k := k) (.inl rfl) (.inl rfl) h
  unfold obs t_l_right_0 t_l_right_1 t_l_right_2 t_l_right_3 t_l_right_4 t_l_right_5 t_l_right_6 t_l_right_7 t_l_right_8 t_l_right_9
  simp [ea, VV.kept, VV.stable]
theorem r_last {a : Nat} (ha : a < 100) : ∃ o ρ', t_l_right_11 (ER t a none) = .ret (0, .bl true) (some (0, .str t) :: o :: ρ') := by
  obtain ⟨o, e1⟩ := fields_eq ha
  have e2 := marks_eq (xvC0 (c := cOf c_GoesError)) (List.mem_cons_self ..)
  have hm : mks c_GoesError = List.replicate 18 (.bl false) := by
    have h : (cl.map fun x => decide (c_GoesError = x)) = List.replicate 18 false := by decide
    have h2 : (cl.map fun x => decide (c_GoesError = x)).map D.bl = (List.replicate 18 false).map D.bl := congrArg _ h
    rw [List.map_map, List.map_replicate] at h2
    exact h2
  rw [hm] at e2
  have e3 : ∀ p m, kNotIn ⟨false, 0, .bl true⟩ ⟨p, m, .lst (List.replicate 18 (.bl false))⟩ = some (vb true) := fun p m => by
    have hs := shp_bls (List.replicate 18 false)
    rw [List.map_replicate] at hs
    unfold kNotIn
    simp only [hs, shp_bl, and_self, if_true]
    rfl
  unfold t_l_right_11 ER
  generalize List.replicate 18 (D.bl false) = bs at *
  generalize (a : Int) = i at *
  generalize obs t i = ob at *
  exact ⟨_, _, by simp [e1, e2, e3, VV.kept, VV.stable]; rfl⟩
theorem sq_sq {a b c : MS} : sq a (sq b c) = sq (sq a b) c := by
  funext ρ
  unfold sq
  cases a ρ <;> rfl
theorem right_eq {a : Nat} (ha : a < 100) : ∃ o, m_l_right [(0, .str t), (0, .int (a : Int))] = .ok (0, .bl true) [some (0, .str t), o] := by
  have e1 := r_build (t := t) (a := a)
  have e2 := r_loop (t := t) (a := a)
  obtain ⟨o, ρ', e3⟩ := r_last (t := t) ha
  have e2 : t_l_right_10 [some (0, .str t), some (0, .int (a : Int)), some (1, .lst (obs t a)), none, none] = .nx (ER t a none) := by
    have h : w_l_right_0 [some (0, .str t), some (0, .int (a : Int)), some (1, .lst (obs t a)), none, none] = w_l_right_0 (ER t a none) := by
      unfold w_l_right_0 ER
      simp [e_pre, e_even]
    show w_l_right_0 _ = _
    rw [h, e2]
  unfold m_l_right fnM
  rw [b_l_right_eq]
  simp only [sq_sq] at e1 ⊢
  generalize sq (sq (sq (sq (sq (sq (sq (sq (sq t_l_right_0 t_l_right_1) t_l_right_2) t_l_right_3) t_l_right_4) t_l_right_5) t_l_right_6) t_l_right_7) t_l_right_8) t_l_right_9 = tb at *
  generalize t_l_right_10 = t10 at *
  generalize t_l_right_11 = t11 at *
  refine ⟨o, ?_⟩
  simp [e_pre, e_even, e1, e2, e3]
end
theorem sign_at {w : Nat} (hw : w < 4) : ∃ z, z.length = 1 ∧ kIx ⟨false, 0, .str "a| ~"⟩ ⟨false, 0, .int (w : Int)⟩ = some (vs z) := by
  match w, hw with
  | 0, _ => exact ⟨⟨#[97]⟩, rfl, rfl⟩
  | 1, _ => exact ⟨⟨#[124]⟩, rfl, rfl⟩
  | 2, _ => exact ⟨⟨#[32]⟩, rfl, rfl⟩
  | 3, _ => exact ⟨⟨#[126]⟩, rfl, rfl⟩
end Lw
set_option maxHeartbeats 4000000
namespace Lw
open PySem Vs
theorem lq {x0 : Option PV} {cs : List Int} {k : Nat} (hk : k < cs.length) (hk2 : k < 70) : q_p_law_0 [x0, some (0, .lst (dints cs)), some (0, .int (k : Int)), none, none] = .nx [x0, some (0, .lst (dints cs)), none, none, none] := by
  have e0 : atD (dints cs) (k : Int) = some (.int cs[k]) := by
    rw [at_nat (by rw [di_len]; exact hk)]
    unfold dints
    rw [List.getElem_map]
  obtain ⟨s0, h0, e1⟩ := bag_eq (x := cs[k]) (k := k) (m := 0) (m' := 0) hk2
  obtain ⟨w, s1, hw, h1, e2⟩ := wdraw (n := 4) (m := 0) h0 (by omega) (by omega) (by omega)
  obtain ⟨u, s2, hu, h2, e3⟩ := wdraw (n := 60) (m := 0) h1 (by omega) (by omega) (by omega)
  obtain ⟨a, s3, ha, h3, e4⟩ := wdraw (n := 12) (m := 0) h2 (by omega) (by omega) (by omega)
  obtain ⟨z, hz, e5⟩ := sign_at hw
  have e6 : kMulT (vs z) (vi (u : Int)) = some (vs (PySem.Txt.mul z u)) := by
    unfold kMulT
    simp only
    rw [if_pos ⟨by omega, by omega, by rw [hz, lim_num]; omega⟩]
  obtain ⟨o, e7⟩ := right_eq (t := PySem.Txt.mul z u) (a := a) (by omega)
  generalize PySem.Txt.mul z u = t at *
  generalize cs[k] = c at *
  generalize dints cs = dc at *
  have e2 : m_l_draw [(1, s0.D), (0, .int 4)] = .ok (0, .int (w : Nat)) [some (1, s1.D), some (0, .int 4)] := e2
  have e3 : m_l_draw [(1, s1.D), (0, .int 60)] = .ok (0, .int (u : Nat)) [some (1, s2.D), some (0, .int 60)] := e3
  have e4 : m_l_draw [(1, s2.D), (0, .int 12)] = .ok (0, .int (a : Nat)) [some (1, s3.D), some (0, .int 12)] := e4
  unfold q_p_law_0
  simp [e_tdy, e_even, e0, e1, e2, e3, e4, e5, e6, e7]
theorem law_true : ∀ ns : List Int, ns.length ≤ 63 → ∃ r out, m_p_law [(0, .lst (dints ns))] = .ok r out ∧ r.2 = .bl true := by
  intro ns hn
  obtain ⟨cs, hc, hc2, hc3⟩ : ∃ cs : List Int, cs.length ≤ 8 ∧ (ns = [] → cs = [0]) ∧ (ns ≠ [] → cs = ns.take 8) := by
    by_cases h : ns = []
    · exact ⟨[0], by simp, fun _ => rfl, fun z => absurd h z⟩
    · exact ⟨ns.take 8, by rw [List.length_take]; omega, fun z => absurd z h, fun _ => rfl⟩
  refine ⟨(0, .bl true), [some (0, .lst (dints ns))], ?_, rfl⟩
  have e0 : (asg (two (slc (fz 1 [0] (v 0)) none (some (cst (vi 8)))) (two (argsk (args [(cst (vi 0))]) kLst) (argsk (args [(two (v 0) (argsk (args []) kLst) kEq)]) kInt) kMul) kAdd) (gname 1)) [some (0, .lst (dints ns)), none, none, none, none] = .nx [some (0, .lst (dints ns)), some (1, .lst (dints cs)), none, none, none] := by
    have e1 : cutD (dints ns) none (some 8) = dints (ns.take 8) := by
      have := cut_to (l := dints ns) (t := 8)
      rw [di_take] at this
      exact this
    have e2 := fun p q m n => e_eqDi (p := p) (q := q) (m := m) (n := n) (l := ns) (k := [])
    have hd : dints [] = [] := rfl
    rw [hd] at e2
    by_cases h : ns = []
    · have e3 := fun p => e_rep (m := 0) (d := .int 0) (n := 1) (k := 0) (p := p) (by omega)
      have e5 := e_addL (p := false) (q := false) (m := 1) (n := 1) (l := []) (k := [.int 0]) (.inl rfl) (.inl rfl) (by simp)
      rw [hc2 h]
      subst h
      simp at e1 e3 e5
      simp [e1, e2, e3, e5, e_sl, kInt, dints, cutD, VV.kept, VV.stable]
    · have e3 := fun p => e_rep (m := 0) (d := .int 0) (n := 0) (k := 0) (p := p) (by omega)
      have e5 := e_addL (p := false) (q := false) (m := 1) (n := 1) (l := dints (ns.take 8)) (k := []) (.inl rfl) (.inl rfl) (by rw [di_len, List.length_take]; simp; omega)
      rw [List.append_nil] at e5
      rw [hc3 h]
      rw [decide_eq_false h] at e2
      simp at e3
      generalize dints (ns.take 8) = dt at *
      generalize dints ns = dns at *
      simp [e1, e2, e3, e5, e_sl, kInt, VV.kept, VV.stable]
  have e1 := e_range1 (p := false) (m := 0) (j := ((cs.length : Nat) : Int)) (by omega) (by omega)
  have e2 : forL (gname 2) q_p_law_0 (rng 0 ((cs.length : Nat) : Int)) [some (0, .lst (dints ns)), some (0, .lst (dints cs)), none, none, none] = .nx [some (0, .lst (dints ns)), some (0, .lst (dints cs)), none, none, none] := by
    refine forL_eq _ (fun _ => [some (0, .lst (dints ns)), some (0, .lst (dints cs)), none, none, none]) fun j d hd => ?_
    obtain ⟨rfl, hj⟩ := rng_at0 hd
    have e3 := lq (x0 := some (0, .lst (dints ns))) hj (by omega)
    generalize q_p_law_0 = q0 at *
    generalize dints ns = dns at *
    simp [e3]
  have hl : (dints cs).length = cs.length := di_len cs
  unfold m_p_law fnM
  rw [b_p_law_eq]
  unfold w_p_law_0
  generalize q_p_law_0 = q0 at *
  generalize dints cs = dc at *
  generalize dints ns = dns at *
  rw [e_pre]
  simp only [e_even]
  simp [-e_asg, e_pre, e_even, e0, hl, e1, e2, VV.kept, VV.stable]
end Lw
namespace Lw
open PySem PySem.Spec PyProof.Rows L2 Vs
theorem all_mk {l : PySem.W.OpenLaw} {w : World} {K : PySem.W.Frag} {h : Heap} {mg : Str → Option Value} {fa : Addr} (X : K.In h) (G : h.Ns mainGlobals mg) (hfa : mg "law" = some (.ref fa))
    {f_l_bag : Addr} {od_l_bag an_l_bag : Option Addr} {sl_l_bag : Array (Option Value)} {oc_l_bag dV_l_bag kV_l_bag dc_l_bag pm_l_bag cd_l_bag ct_l_bag : Value}
    (a_l_bag : PySem.W.nsIn K mainGlobals "_law_bag" = some (some (.ref f_l_bag))) (l_l_bag : K.lookup f_l_bag = some ⟨oc_l_bag, od_l_bag, .func (PySem.W.fnOf "_law_bag" "_law_bag" (defArgs s_l_bag) (defBody s_l_bag) (defScope s_l_bag) dV_l_bag kV_l_bag dc_l_bag pm_l_bag an_l_bag cd_l_bag ct_l_bag), sl_l_bag⟩) (c_l_bag : PySem.W.codeIn K cd_l_bag "_law_bag" = true) (k_l_bag : PySem.W.keepIn K (.ref f_l_bag) = true)
    (d_l_bag : dV_l_bag = .none)
    {f_l_draw : Addr} {od_l_draw an_l_draw : Option Addr} {sl_l_draw : Array (Option Value)} {oc_l_draw dV_l_draw kV_l_draw dc_l_draw pm_l_draw cd_l_draw ct_l_draw : Value}
    (a_l_draw : PySem.W.nsIn K mainGlobals "_law_draw" = some (some (.ref f_l_draw))) (l_l_draw : K.lookup f_l_draw = some ⟨oc_l_draw, od_l_draw, .func (PySem.W.fnOf "_law_draw" "_law_draw" (defArgs s_l_draw) (defBody s_l_draw) (defScope s_l_draw) dV_l_draw kV_l_draw dc_l_draw pm_l_draw an_l_draw cd_l_draw ct_l_draw), sl_l_draw⟩) (c_l_draw : PySem.W.codeIn K cd_l_draw "_law_draw" = true) (k_l_draw : PySem.W.keepIn K (.ref f_l_draw) = true)
    (d_l_draw : dV_l_draw = .none)
    {f_l_fields_right : Addr} {od_l_fields_right an_l_fields_right : Option Addr} {sl_l_fields_right : Array (Option Value)} {oc_l_fields_right dV_l_fields_right kV_l_fields_right dc_l_fields_right pm_l_fields_right cd_l_fields_right ct_l_fields_right : Value}
    (a_l_fields_right : PySem.W.nsIn K mainGlobals "_law_fields_right" = some (some (.ref f_l_fields_right))) (l_l_fields_right : K.lookup f_l_fields_right = some ⟨oc_l_fields_right, od_l_fields_right, .func (PySem.W.fnOf "_law_fields_right" "_law_fields_right" (defArgs s_l_fields_right) (defBody s_l_fields_right) (defScope s_l_fields_right) dV_l_fields_right kV_l_fields_right dc_l_fields_right pm_l_fields_right an_l_fields_right cd_l_fields_right ct_l_fields_right), sl_l_fields_right⟩) (c_l_fields_right : PySem.W.codeIn K cd_l_fields_right "_law_fields_right" = true) (k_l_fields_right : PySem.W.keepIn K (.ref f_l_fields_right) = true)
    (d_l_fields_right : dV_l_fields_right = .none)
    {f_l_marks : Addr} {od_l_marks an_l_marks : Option Addr} {sl_l_marks : Array (Option Value)} {oc_l_marks dV_l_marks kV_l_marks dc_l_marks pm_l_marks cd_l_marks ct_l_marks : Value}
    (a_l_marks : PySem.W.nsIn K mainGlobals "_law_marks" = some (some (.ref f_l_marks))) (l_l_marks : K.lookup f_l_marks = some ⟨oc_l_marks, od_l_marks, .func (PySem.W.fnOf "_law_marks" "_law_marks" (defArgs s_l_marks) (defBody s_l_marks) (defScope s_l_marks) dV_l_marks kV_l_marks dc_l_marks pm_l_marks an_l_marks cd_l_marks ct_l_marks), sl_l_marks⟩) (c_l_marks : PySem.W.codeIn K cd_l_marks "_law_marks" = true) (k_l_marks : PySem.W.keepIn K (.ref f_l_marks) = true)
    (d_l_marks : dV_l_marks = .none)
    {f_l_right : Addr} {od_l_right an_l_right : Option Addr} {sl_l_right : Array (Option Value)} {oc_l_right dV_l_right kV_l_right dc_l_right pm_l_right cd_l_right ct_l_right : Value}
    (a_l_right : PySem.W.nsIn K mainGlobals "_law_right" = some (some (.ref f_l_right))) (l_l_right : K.lookup f_l_right = some ⟨oc_l_right, od_l_right, .func (PySem.W.fnOf "_law_right" "_law_right" (defArgs s_l_right) (defBody s_l_right) (defScope s_l_right) dV_l_right kV_l_right dc_l_right pm_l_right an_l_right cd_l_right ct_l_right), sl_l_right⟩) (c_l_right : PySem.W.codeIn K cd_l_right "_law_right" = true) (k_l_right : PySem.W.keepIn K (.ref f_l_right) = true)
    (d_l_right : dV_l_right = .none)
    {f_p_law : Addr} {od_p_law an_p_law : Option Addr} {sl_p_law : Array (Option Value)} {oc_p_law dV_p_law kV_p_law dc_p_law pm_p_law cd_p_law ct_p_law : Value}
    (a_p_law : PySem.W.nsIn K mainGlobals "law" = some (some (.ref f_p_law))) (l_p_law : K.lookup f_p_law = some ⟨oc_p_law, od_p_law, .func (PySem.W.fnOf "law" "law" (defArgs s_p_law) (defBody s_p_law) (defScope s_p_law) dV_p_law kV_p_law dc_p_law pm_p_law an_p_law cd_p_law ct_p_law), sl_p_law⟩) (c_p_law : PySem.W.codeIn K cd_p_law "law" = true) (k_p_law : PySem.W.keepIn K (.ref f_p_law) = true)
    (d_p_law : dV_p_law = .none)
    (z_ValueError : PySem.W.nsIn K mainGlobals "ValueError" = some none)
    (z_int : PySem.W.nsIn K mainGlobals "int" = some none)
    (z_isinstance : PySem.W.nsIn K mainGlobals "isinstance" = some none)
    (z_len : PySem.W.nsIn K mainGlobals "len" = some none)
    (z_range : PySem.W.nsIn K mainGlobals "range" = some none)
    (z_super : PySem.W.nsIn K mainGlobals "super" = some none)
    {C_GoesError : Addr} (xa_GoesError : PySem.W.nsIn K mainGlobals "GoesError" = some (some (.ref C_GoesError))) (oe_GoesError : C_GoesError = c_GoesError)
    {C_InvalidPermutation : Addr} (xa_InvalidPermutation : PySem.W.nsIn K mainGlobals "InvalidPermutation" = some (some (.ref C_InvalidPermutation))) (oe_InvalidPermutation : C_InvalidPermutation = c_InvalidPermutation)
    {C_InvalidNumber : Addr} (xa_InvalidNumber : PySem.W.nsIn K mainGlobals "InvalidNumber" = some (some (.ref C_InvalidNumber))) (oe_InvalidNumber : C_InvalidNumber = c_InvalidNumber)
    {C_InvalidWide : Addr} (xa_InvalidWide : PySem.W.nsIn K mainGlobals "InvalidWide" = some (some (.ref C_InvalidWide))) (oe_InvalidWide : C_InvalidWide = c_InvalidWide)
    {C_InvalidOutcomes : Addr} (xa_InvalidOutcomes : PySem.W.nsIn K mainGlobals "InvalidOutcomes" = some (some (.ref C_InvalidOutcomes))) (oe_InvalidOutcomes : C_InvalidOutcomes = c_InvalidOutcomes)
    {C_InvalidBlock : Addr} (xa_InvalidBlock : PySem.W.nsIn K mainGlobals "InvalidBlock" = some (some (.ref C_InvalidBlock))) (oe_InvalidBlock : C_InvalidBlock = c_InvalidBlock)
    {C_OtherSize : Addr} (xa_OtherSize : PySem.W.nsIn K mainGlobals "OtherSize" = some (some (.ref C_OtherSize))) (oe_OtherSize : C_OtherSize = c_OtherSize)
    {C_NothingToUndo : Addr} (xa_NothingToUndo : PySem.W.nsIn K mainGlobals "NothingToUndo" = some (some (.ref C_NothingToUndo))) (oe_NothingToUndo : C_NothingToUndo = c_NothingToUndo)
    {C_InvalidPermutations : Addr} (xa_InvalidPermutations : PySem.W.nsIn K mainGlobals "InvalidPermutations" = some (some (.ref C_InvalidPermutations))) (oe_InvalidPermutations : C_InvalidPermutations = c_InvalidPermutations)
    {C_InvalidRule : Addr} (xa_InvalidRule : PySem.W.nsIn K mainGlobals "InvalidRule" = some (some (.ref C_InvalidRule))) (oe_InvalidRule : C_InvalidRule = c_InvalidRule)
    {C_InvalidRules : Addr} (xa_InvalidRules : PySem.W.nsIn K mainGlobals "InvalidRules" = some (some (.ref C_InvalidRules))) (oe_InvalidRules : C_InvalidRules = c_InvalidRules)
    {C_InvalidRow : Addr} (xa_InvalidRow : PySem.W.nsIn K mainGlobals "InvalidRow" = some (some (.ref C_InvalidRow))) (oe_InvalidRow : C_InvalidRow = c_InvalidRow)
    {C_InvalidRows : Addr} (xa_InvalidRows : PySem.W.nsIn K mainGlobals "InvalidRows" = some (some (.ref C_InvalidRows))) (oe_InvalidRows : C_InvalidRows = c_InvalidRows)
    {C_InvalidStream : Addr} (xa_InvalidStream : PySem.W.nsIn K mainGlobals "InvalidStream" = some (some (.ref C_InvalidStream))) (oe_InvalidStream : C_InvalidStream = c_InvalidStream)
    {C_InvalidTable : Addr} (xa_InvalidTable : PySem.W.nsIn K mainGlobals "InvalidTable" = some (some (.ref C_InvalidTable))) (oe_InvalidTable : C_InvalidTable = c_InvalidTable)
    {C_NotWhole : Addr} (xa_NotWhole : PySem.W.nsIn K mainGlobals "NotWhole" = some (some (.ref C_NotWhole))) (oe_NotWhole : C_NotWhole = c_NotWhole)
    {C_TooMany : Addr} (xa_TooMany : PySem.W.nsIn K mainGlobals "TooMany" = some (some (.ref C_TooMany))) (oe_TooMany : C_TooMany = c_TooMany)
    {C_WouldGo : Addr} (xa_WouldGo : PySem.W.nsIn K mainGlobals "WouldGo" = some (some (.ref C_WouldGo))) (oe_WouldGo : C_WouldGo = c_WouldGo)
    {C_InvalidText : Addr} (xa_InvalidText : PySem.W.nsIn K mainGlobals "InvalidText" = some (some (.ref C_InvalidText))) (oe_InvalidText : C_InvalidText = c_InvalidText)
    (xall : xvB K [C_GoesError, C_InvalidPermutation, C_InvalidNumber, C_InvalidWide, C_InvalidOutcomes, C_InvalidBlock, C_OtherSize, C_NothingToUndo, C_InvalidPermutations, C_InvalidRule, C_InvalidRules, C_InvalidRow, C_InvalidRows, C_InvalidStream, C_InvalidTable, C_NotWhole, C_TooMany, C_WouldGo, C_InvalidText] [(.ref C_InvalidBlock, [C_InvalidBlock]), (.ref C_InvalidNumber, [C_InvalidNumber]), (.ref C_InvalidOutcomes, [C_InvalidOutcomes]), (.ref C_InvalidPermutation, [C_InvalidPermutation]), (.ref C_InvalidPermutations, [C_InvalidPermutations]), (.ref C_InvalidRow, [C_InvalidRow]), (.ref C_InvalidRows, [C_InvalidRows]), (.ref C_InvalidRule, [C_InvalidRule]), (.ref C_InvalidRules, [C_InvalidRules]), (.ref C_InvalidStream, [C_InvalidStream]), (.ref C_InvalidTable, [C_InvalidTable]), (.ref C_InvalidText, [C_InvalidText]), (.ref C_InvalidWide, [C_InvalidWide]), (.ref C_NotWhole, [C_NotWhole]), (.ref C_NothingToUndo, [C_NothingToUndo]), (.ref C_OtherSize, [C_OtherSize]), (.ref C_TooMany, [C_TooMany]), (.ref C_WouldGo, [C_WouldGo]), (.ref C_GoesError, [C_GoesError, C_InvalidPermutation, C_InvalidNumber, C_InvalidWide, C_InvalidOutcomes, C_InvalidBlock, C_OtherSize, C_NothingToUndo, C_InvalidPermutations, C_InvalidRule, C_InvalidRules, C_InvalidRow, C_InvalidRows, C_InvalidStream, C_InvalidTable, C_NotWhole, C_TooMany, C_WouldGo, C_InvalidText]), (.type "ValueError", [C_GoesError, C_InvalidPermutation, C_InvalidNumber, C_InvalidWide, C_InvalidOutcomes, C_InvalidBlock, C_OtherSize, C_NothingToUndo, C_InvalidPermutations, C_InvalidRule, C_InvalidRules, C_InvalidRow, C_InvalidRows, C_InvalidStream, C_InvalidTable, C_NotWhole, C_TooMany, C_WouldGo, C_InvalidText])] [("block", [C_WouldGo]), ("index", [C_InvalidPermutations, C_InvalidRule, C_InvalidRules, C_InvalidRow, C_InvalidRows, C_InvalidStream]), ("limit", [C_TooMany]), ("line", [C_InvalidText]), ("places", [C_NotWhole]), ("state", [C_InvalidTable]), ("word", [C_InvalidText])] = true)
    (xt_GoesError : XTx K C_GoesError)
    (xt_InvalidPermutation : XTx K C_InvalidPermutation)
    (xt_InvalidNumber : XTx K C_InvalidNumber)
    (xt_InvalidWide : XTx K C_InvalidWide)
    (xt_InvalidOutcomes : XTx K C_InvalidOutcomes)
    (xt_InvalidBlock : XTx K C_InvalidBlock)
    (xt_OtherSize : XTx K C_OtherSize)
    (xt_NothingToUndo : XTx K C_NothingToUndo)
    {fI_InvalidPermutations : Addr} (xk_InvalidPermutations : XCls l.prog K C_InvalidPermutations fI_InvalidPermutations "index" ∧ XKw K fI_InvalidPermutations "index")
    {fI_InvalidRule : Addr} (xk_InvalidRule : XCls l.prog K C_InvalidRule fI_InvalidRule "index" ∧ XKw K fI_InvalidRule "index")
    {fI_InvalidRules : Addr} (xk_InvalidRules : XCls l.prog K C_InvalidRules fI_InvalidRules "index" ∧ XKw K fI_InvalidRules "index")
    {fI_InvalidRow : Addr} (xk_InvalidRow : XCls l.prog K C_InvalidRow fI_InvalidRow "index" ∧ XKw K fI_InvalidRow "index")
    {fI_InvalidRows : Addr} (xk_InvalidRows : XCls l.prog K C_InvalidRows fI_InvalidRows "index" ∧ XKw K fI_InvalidRows "index")
    {fI_InvalidStream : Addr} (xk_InvalidStream : XCls l.prog K C_InvalidStream fI_InvalidStream "index" ∧ XKw K fI_InvalidStream "index")
    {fI_InvalidTable : Addr} (xk_InvalidTable : XCls l.prog K C_InvalidTable fI_InvalidTable "state" ∧ XKw K fI_InvalidTable "state")
    {fI_NotWhole : Addr} (xk_NotWhole : XCls l.prog K C_NotWhole fI_NotWhole "places" ∧ XKw K fI_NotWhole "places")
    {fI_TooMany : Addr} (xk_TooMany : XCls l.prog K C_TooMany fI_TooMany "limit" ∧ XKw K fI_TooMany "limit")
    {fI_WouldGo : Addr} (xk_WouldGo : XCls l.prog K C_WouldGo fI_WouldGo "block" ∧ XKw K fI_WouldGo "block")
    {fI_InvalidText : Addr} (xd_InvalidText : XCls2 l.prog K C_InvalidText fI_InvalidText "line" "word")
    : ∃ (ct : Str → Addr) (fd : FuncData), (∀ (s : Shared) (u : Value), BindsTo s fd ⟨[u], []⟩ [("_law_script", u)]) ∧ ∀ base : Heap, K.In base → base.Ns mainGlobals mg → Fn l.prog w K mg base ct 3 fa fd ["_law_script"] m_p_law := by
  have e := hfa.symm.trans (PySem.W.mg_of X G a_p_law)
  cases e
  subst d_p_law
  subst oe_GoesError
  subst oe_InvalidPermutation
  subst oe_InvalidNumber
  subst oe_InvalidWide
  subst oe_InvalidOutcomes
  subst oe_InvalidBlock
  subst oe_OtherSize
  subst oe_NothingToUndo
  subst oe_InvalidPermutations
  subst oe_InvalidRule
  subst oe_InvalidRules
  subst oe_InvalidRow
  subst oe_InvalidRows
  subst oe_InvalidStream
  subst oe_InvalidTable
  subst oe_NotWhole
  subst oe_TooMany
  subst oe_WouldGo
  subst oe_InvalidText
  have T : Txt l.prog K mg := ⟨PySem.W.mg_of X G xa_GoesError, xt_GoesError, PySem.W.mg_of X G xa_InvalidPermutation, xt_InvalidPermutation, PySem.W.mg_of X G xa_InvalidNumber, xt_InvalidNumber, PySem.W.mg_of X G xa_InvalidWide, xt_InvalidWide, PySem.W.mg_of X G xa_InvalidOutcomes, xt_InvalidOutcomes, PySem.W.mg_of X G xa_InvalidBlock, xt_InvalidBlock, PySem.W.mg_of X G xa_OtherSize, xt_OtherSize, PySem.W.mg_of X G xa_NothingToUndo, xt_NothingToUndo, PySem.W.mg_of X G xa_InvalidPermutations, ⟨fI_InvalidPermutations, xk_InvalidPermutations⟩, PySem.W.mg_of X G xa_InvalidRule, ⟨fI_InvalidRule, xk_InvalidRule⟩, PySem.W.mg_of X G xa_InvalidRules, ⟨fI_InvalidRules, xk_InvalidRules⟩, PySem.W.mg_of X G xa_InvalidRow, ⟨fI_InvalidRow, xk_InvalidRow⟩, PySem.W.mg_of X G xa_InvalidRows, ⟨fI_InvalidRows, xk_InvalidRows⟩, PySem.W.mg_of X G xa_InvalidStream, ⟨fI_InvalidStream, xk_InvalidStream⟩, PySem.W.mg_of X G xa_InvalidTable, ⟨fI_InvalidTable, xk_InvalidTable⟩, PySem.W.mg_of X G xa_NotWhole, ⟨fI_NotWhole, xk_NotWhole⟩, PySem.W.mg_of X G xa_TooMany, ⟨fI_TooMany, xk_TooMany⟩, PySem.W.mg_of X G xa_WouldGo, ⟨fI_WouldGo, xk_WouldGo⟩, PySem.W.mg_of X G xa_InvalidText, ⟨fI_InvalidText, xd_InvalidText⟩, xv_is xall 0 rfl, xv_is xall 1 rfl, xv_is xall 2 rfl, xv_is xall 3 rfl, xv_is xall 4 rfl, xv_is xall 5 rfl, xv_is xall 6 rfl, xv_is xall 7 rfl, xv_is xall 8 rfl, xv_is xall 9 rfl, xv_is xall 10 rfl, xv_is xall 11 rfl, xv_is xall 12 rfl, xv_is xall 13 rfl, xv_is xall 14 rfl, xv_is xall 15 rfl, xv_is xall 16 rfl, xv_is xall 17 rfl, xv_is xall 18 rfl, xv_is xall 19 rfl, xv_fl xall 0 rfl, xv_fl xall 1 rfl, xv_fl xall 2 rfl, xv_fl xall 3 rfl, xv_fl xall 4 rfl, xv_fl xall 5 rfl, xv_fl xall 6 rfl, PySem.W.mg_none_of X G z_ValueError, PySem.W.mg_none_of X G z_int, PySem.W.mg_none_of X G z_isinstance, PySem.W.mg_none_of X G z_len, PySem.W.mg_none_of X G z_range, PySem.W.mg_none_of X G z_super⟩
  have F_l_bag := funD_mk (st := s_l_bag) (dvs := []) l_l_bag c_l_bag k_l_bag (dfl_none d_l_bag)
  have F_l_draw := funD_mk (st := s_l_draw) (dvs := []) l_l_draw c_l_draw k_l_draw (dfl_none d_l_draw)
  have F_l_fields_right := funD_mk (st := s_l_fields_right) (dvs := []) l_l_fields_right c_l_fields_right k_l_fields_right (dfl_none d_l_fields_right)
  have F_l_marks := funD_mk (st := s_l_marks) (dvs := []) l_l_marks c_l_marks k_l_marks (dfl_none d_l_marks)
  have F_l_right := funD_mk (st := s_l_right) (dvs := []) l_l_right c_l_right k_l_right (dfl_none d_l_right)
  have F_p_law := funD_mk (st := s_p_law) (dvs := []) l_p_law c_p_law k_p_law (dfl_none rfl)
  have Bbl_bag_2 := bl_bag_2 F_l_bag
  have Bbl_draw_2 := bl_draw_2 F_l_draw
  have Bbl_fields_right_1 := bl_fields_right_1 F_l_fields_right
  have Bbl_marks_1 := bl_marks_1 F_l_marks
  have Bbl_right_2 := bl_right_2 F_l_right
  refine ⟨(fun _ => 0), PySem.W.fnOf "law" "law" (defArgs s_p_law) (defBody s_p_law) (defScope s_p_law) .none kV_p_law dc_p_law pm_p_law an_p_law cd_p_law ct_p_law, fun s v => .of_eq rfl, fun base _ _ => ?_⟩
  have G_l_bag : Fn l.prog w K mg base (fun _ => 0) 1 _ _ ["_law_cell", "_law_k"] m_l_bag := fn_l_bag T F_l_bag 
  have G_l_draw : Fn l.prog w K mg base (fun _ => 0) 1 _ _ ["_law_bag_here", "_law_many"] m_l_draw := fn_l_draw T F_l_draw 
  have G_l_fields_right : Fn l.prog w K mg base (fun _ => 0) 1 _ _ ["_law_amount"] m_l_fields_right := fn_l_fields_right T F_l_fields_right 
  have G_l_marks : Fn l.prog w K mg base (fun _ => 0) 1 _ _ ["_law_e"] m_l_marks := fn_l_marks T F_l_marks 
  have G_l_right : Fn l.prog w K mg base (fun _ => 0) 2 _ _ ["_law_message", "_law_amount"] m_l_right := fn_l_right T F_l_right G_l_fields_right (PySem.W.mg_of X G a_l_fields_right) k_l_fields_right G_l_marks (PySem.W.mg_of X G a_l_marks) k_l_marks Bbl_fields_right_1 .nil Bbl_marks_1 .nil
  have G_p_law : Fn l.prog w K mg base (fun _ => 0) 3 _ _ ["_law_script"] m_p_law := fn_p_law T F_p_law G_l_bag (PySem.W.mg_of X G a_l_bag) k_l_bag G_l_draw (PySem.W.mg_of X G a_l_draw) k_l_draw G_l_right (PySem.W.mg_of X G a_l_right) k_l_right Bbl_bag_2 .nil Bbl_draw_2 .nil Bbl_right_2 .nil
  exact G_p_law
end Lw
open PySem PySem.W PyProof.Rows
set_option maxRecDepth 100000 in
set_option maxHeartbeats 0 in
theorem PySem.Challenge.cw_goesnext_k84_errors_are_distinct_holds : PySem.Challenge.rw_goesnext_k84_errors_are_distinct.Holds := by
  w_on; o_law; k_head; (case hw => w_witness2)
  k_fill
  refine Vs.walk_of (l := PySem.Challenge.rw_goesnext_k84_errors_are_distinct) (n := 63) (k := 3) (x := "_law_script") (m := Lw.m_p_law) rfl (by decide) rfl ⟨rfl, by decide, by decide⟩ (fun w h Y => PySem.W.kIn_of Y) ?F Lw.law_true
  case F =>
    intro w mg fa h KX G hmg
    refine' Lw.all_mk KX G hmg ?a_l_bag ?l_l_bag ?c_l_bag ?k_l_bag ?d_l_bag ?a_l_draw ?l_l_draw ?c_l_draw ?k_l_draw ?d_l_draw ?a_l_fields_right ?l_l_fields_right ?c_l_fields_right ?k_l_fields_right ?d_l_fields_right ?a_l_marks ?l_l_marks ?c_l_marks ?k_l_marks ?d_l_marks ?a_l_right ?l_l_right ?c_l_right ?k_l_right ?d_l_right ?a_p_law ?l_p_law ?c_p_law ?k_p_law ?d_p_law ?z_ValueError ?z_int ?z_isinstance ?z_len ?z_range ?z_super ?xa_GoesError ?oe_GoesError ?xa_InvalidPermutation ?oe_InvalidPermutation ?xa_InvalidNumber ?oe_InvalidNumber ?xa_InvalidWide ?oe_InvalidWide ?xa_InvalidOutcomes ?oe_InvalidOutcomes ?xa_InvalidBlock ?oe_InvalidBlock ?xa_OtherSize ?oe_OtherSize ?xa_NothingToUndo ?oe_NothingToUndo ?xa_InvalidPermutations ?oe_InvalidPermutations ?xa_InvalidRule ?oe_InvalidRule ?xa_InvalidRules ?oe_InvalidRules ?xa_InvalidRow ?oe_InvalidRow ?xa_InvalidRows ?oe_InvalidRows ?xa_InvalidStream ?oe_InvalidStream ?xa_InvalidTable ?oe_InvalidTable ?xa_NotWhole ?oe_NotWhole ?xa_TooMany ?oe_TooMany ?xa_WouldGo ?oe_WouldGo ?xa_InvalidText ?oe_InvalidText ?xall ?xt_GoesError ?xt_InvalidPermutation ?xt_InvalidNumber ?xt_InvalidWide ?xt_InvalidOutcomes ?xt_InvalidBlock ?xt_OtherSize ?xt_NothingToUndo ?xk_InvalidPermutations ?xk_InvalidRule ?xk_InvalidRules ?xk_InvalidRow ?xk_InvalidRows ?xk_InvalidStream ?xk_InvalidTable ?xk_NotWhole ?xk_TooMany ?xk_WouldGo ?xd_InvalidText
    (case a_l_bag => k_is)
    (case l_l_bag => k_is)
    (case c_l_bag => k_is)
    (case k_l_bag => k_is)
    (case d_l_bag => rfl)
    (case a_l_draw => k_is)
    (case l_l_draw => k_is)
    (case c_l_draw => k_is)
    (case k_l_draw => k_is)
    (case d_l_draw => rfl)
    (case a_l_fields_right => k_is)
    (case l_l_fields_right => k_is)
    (case c_l_fields_right => k_is)
    (case k_l_fields_right => k_is)
    (case d_l_fields_right => rfl)
    (case a_l_marks => k_is)
    (case l_l_marks => k_is)
    (case c_l_marks => k_is)
    (case k_l_marks => k_is)
    (case d_l_marks => rfl)
    (case a_l_right => k_is)
    (case l_l_right => k_is)
    (case c_l_right => k_is)
    (case k_l_right => k_is)
    (case d_l_right => rfl)
    (case a_p_law => k_is)
    (case l_p_law => k_is)
    (case c_p_law => k_is)
    (case k_p_law => k_is)
    (case d_p_law => rfl)
    (case z_ValueError => k_is)
    (case z_int => k_is)
    (case z_isinstance => k_is)
    (case z_len => k_is)
    (case z_range => k_is)
    (case z_super => k_is)
    (case xa_GoesError => k_is)
    (case oe_GoesError => rfl)
    (case xa_InvalidPermutation => k_is)
    (case oe_InvalidPermutation => rfl)
    (case xa_InvalidNumber => k_is)
    (case oe_InvalidNumber => rfl)
    (case xa_InvalidWide => k_is)
    (case oe_InvalidWide => rfl)
    (case xa_InvalidOutcomes => k_is)
    (case oe_InvalidOutcomes => rfl)
    (case xa_InvalidBlock => k_is)
    (case oe_InvalidBlock => rfl)
    (case xa_OtherSize => k_is)
    (case oe_OtherSize => rfl)
    (case xa_NothingToUndo => k_is)
    (case oe_NothingToUndo => rfl)
    (case xa_InvalidPermutations => k_is)
    (case oe_InvalidPermutations => rfl)
    (case xa_InvalidRule => k_is)
    (case oe_InvalidRule => rfl)
    (case xa_InvalidRules => k_is)
    (case oe_InvalidRules => rfl)
    (case xa_InvalidRow => k_is)
    (case oe_InvalidRow => rfl)
    (case xa_InvalidRows => k_is)
    (case oe_InvalidRows => rfl)
    (case xa_InvalidStream => k_is)
    (case oe_InvalidStream => rfl)
    (case xa_InvalidTable => k_is)
    (case oe_InvalidTable => rfl)
    (case xa_NotWhole => k_is)
    (case oe_NotWhole => rfl)
    (case xa_TooMany => k_is)
    (case oe_TooMany => rfl)
    (case xa_WouldGo => k_is)
    (case oe_WouldGo => rfl)
    (case xa_InvalidText => k_is)
    (case oe_InvalidText => rfl)
    (case xall => exact Eq.refl true)
    (case xt_GoesError => exact ⟨by k_exc, by k_is, by k_is, by k_is⟩)
    (case xt_InvalidPermutation => exact ⟨by k_exc, by k_is, by k_is, by k_is⟩)
    (case xt_InvalidNumber => exact ⟨by k_exc, by k_is, by k_is, by k_is⟩)
    (case xt_InvalidWide => exact ⟨by k_exc, by k_is, by k_is, by k_is⟩)
    (case xt_InvalidOutcomes => exact ⟨by k_exc, by k_is, by k_is, by k_is⟩)
    (case xt_InvalidBlock => exact ⟨by k_exc, by k_is, by k_is, by k_is⟩)
    (case xt_OtherSize => exact ⟨by k_exc, by k_is, by k_is, by k_is⟩)
    (case xt_NothingToUndo => exact ⟨by k_exc, by k_is, by k_is, by k_is⟩)
    (case xk_InvalidPermutations => refine' Vs.xclsk_mk (st := Lw.xs_InvalidPermutations) ?q1 ?q2 ?q3 ?q4 ?q5 ?q6 ?q7 ?q8 ?q9 ?q10 ?q11 ?q12 ?q13 ?q14 ?q15 ?q16 ?q17 ?q18 ?q19 ?q20 ?q21 ?q22 ?q23 ?q24 ?q25 ?q26 ?q27 ?q28 ?q29 ?q30 ?q31 ?q32 ?q33 ?q34 ?q35 ?q36; (case q1 => k_is); (case q2 => k_is); (case q3 => k_is); (case q4 => k_is); (case q5 => k_is); (case q6 => decide +kernel); (case q7 => k_is); (case q8 => k_is); (case q9 => k_is); (case q10 => k_is); (case q11 => k_is); (case q12 => k_is); (case q13 => k_is); (case q14 => k_is); (case q15 => k_is); (case q16 => exact Eq.refl _); (case q17 => k_is); (case q18 => rfl); (case q19 => rfl); (case q20 => rfl); (case q21 => rfl); (case q22 => rfl); (case q23 => rfl); (case q24 => rfl); (case q25 => rfl); (case q26 => rfl); (case q27 => decide); (case q28 => rfl); (case q29 => rfl); (case q30 => rfl); (case q31 => exact fun a b => rfl); (case q32 => decide); (case q33 => decide); (case q34 => rfl); (case q35 => rfl); (case q36 => exact fun a b => rfl))
    (case xk_InvalidRule => refine' Vs.xclsk_mk (st := Lw.xs_InvalidRule) ?q1 ?q2 ?q3 ?q4 ?q5 ?q6 ?q7 ?q8 ?q9 ?q10 ?q11 ?q12 ?q13 ?q14 ?q15 ?q16 ?q17 ?q18 ?q19 ?q20 ?q21 ?q22 ?q23 ?q24 ?q25 ?q26 ?q27 ?q28 ?q29 ?q30 ?q31 ?q32 ?q33 ?q34 ?q35 ?q36; (case q1 => k_is); (case q2 => k_is); (case q3 => k_is); (case q4 => k_is); (case q5 => k_is); (case q6 => decide +kernel); (case q7 => k_is); (case q8 => k_is); (case q9 => k_is); (case q10 => k_is); (case q11 => k_is); (case q12 => k_is); (case q13 => k_is); (case q14 => k_is); (case q15 => k_is); (case q16 => exact Eq.refl _); (case q17 => k_is); (case q18 => rfl); (case q19 => rfl); (case q20 => rfl); (case q21 => rfl); (case q22 => rfl); (case q23 => rfl); (case q24 => rfl); (case q25 => rfl); (case q26 => rfl); (case q27 => decide); (case q28 => rfl); (case q29 => rfl); (case q30 => rfl); (case q31 => exact fun a b => rfl); (case q32 => decide); (case q33 => decide); (case q34 => rfl); (case q35 => rfl); (case q36 => exact fun a b => rfl))
    (case xk_InvalidRules => refine' Vs.xclsk_mk (st := Lw.xs_InvalidRules) ?q1 ?q2 ?q3 ?q4 ?q5 ?q6 ?q7 ?q8 ?q9 ?q10 ?q11 ?q12 ?q13 ?q14 ?q15 ?q16 ?q17 ?q18 ?q19 ?q20 ?q21 ?q22 ?q23 ?q24 ?q25 ?q26 ?q27 ?q28 ?q29 ?q30 ?q31 ?q32 ?q33 ?q34 ?q35 ?q36; (case q1 => k_is); (case q2 => k_is); (case q3 => k_is); (case q4 => k_is); (case q5 => k_is); (case q6 => decide +kernel); (case q7 => k_is); (case q8 => k_is); (case q9 => k_is); (case q10 => k_is); (case q11 => k_is); (case q12 => k_is); (case q13 => k_is); (case q14 => k_is); (case q15 => k_is); (case q16 => exact Eq.refl _); (case q17 => k_is); (case q18 => rfl); (case q19 => rfl); (case q20 => rfl); (case q21 => rfl); (case q22 => rfl); (case q23 => rfl); (case q24 => rfl); (case q25 => rfl); (case q26 => rfl); (case q27 => decide); (case q28 => rfl); (case q29 => rfl); (case q30 => rfl); (case q31 => exact fun a b => rfl); (case q32 => decide); (case q33 => decide); (case q34 => rfl); (case q35 => rfl); (case q36 => exact fun a b => rfl))
    (case xk_InvalidRow => refine' Vs.xclsk_mk (st := Lw.xs_InvalidRow) ?q1 ?q2 ?q3 ?q4 ?q5 ?q6 ?q7 ?q8 ?q9 ?q10 ?q11 ?q12 ?q13 ?q14 ?q15 ?q16 ?q17 ?q18 ?q19 ?q20 ?q21 ?q22 ?q23 ?q24 ?q25 ?q26 ?q27 ?q28 ?q29 ?q30 ?q31 ?q32 ?q33 ?q34 ?q35 ?q36; (case q1 => k_is); (case q2 => k_is); (case q3 => k_is); (case q4 => k_is); (case q5 => k_is); (case q6 => decide +kernel); (case q7 => k_is); (case q8 => k_is); (case q9 => k_is); (case q10 => k_is); (case q11 => k_is); (case q12 => k_is); (case q13 => k_is); (case q14 => k_is); (case q15 => k_is); (case q16 => exact Eq.refl _); (case q17 => k_is); (case q18 => rfl); (case q19 => rfl); (case q20 => rfl); (case q21 => rfl); (case q22 => rfl); (case q23 => rfl); (case q24 => rfl); (case q25 => rfl); (case q26 => rfl); (case q27 => decide); (case q28 => rfl); (case q29 => rfl); (case q30 => rfl); (case q31 => exact fun a b => rfl); (case q32 => decide); (case q33 => decide); (case q34 => rfl); (case q35 => rfl); (case q36 => exact fun a b => rfl))
    (case xk_InvalidRows => refine' Vs.xclsk_mk (st := Lw.xs_InvalidRows) ?q1 ?q2 ?q3 ?q4 ?q5 ?q6 ?q7 ?q8 ?q9 ?q10 ?q11 ?q12 ?q13 ?q14 ?q15 ?q16 ?q17 ?q18 ?q19 ?q20 ?q21 ?q22 ?q23 ?q24 ?q25 ?q26 ?q27 ?q28 ?q29 ?q30 ?q31 ?q32 ?q33 ?q34 ?q35 ?q36; (case q1 => k_is); (case q2 => k_is); (case q3 => k_is); (case q4 => k_is); (case q5 => k_is); (case q6 => decide +kernel); (case q7 => k_is); (case q8 => k_is); (case q9 => k_is); (case q10 => k_is); (case q11 => k_is); (case q12 => k_is); (case q13 => k_is); (case q14 => k_is); (case q15 => k_is); (case q16 => exact Eq.refl _); (case q17 => k_is); (case q18 => rfl); (case q19 => rfl); (case q20 => rfl); (case q21 => rfl); (case q22 => rfl); (case q23 => rfl); (case q24 => rfl); (case q25 => rfl); (case q26 => rfl); (case q27 => decide); (case q28 => rfl); (case q29 => rfl); (case q30 => rfl); (case q31 => exact fun a b => rfl); (case q32 => decide); (case q33 => decide); (case q34 => rfl); (case q35 => rfl); (case q36 => exact fun a b => rfl))
    (case xk_InvalidStream => refine' Vs.xclsk_mk (st := Lw.xs_InvalidStream) ?q1 ?q2 ?q3 ?q4 ?q5 ?q6 ?q7 ?q8 ?q9 ?q10 ?q11 ?q12 ?q13 ?q14 ?q15 ?q16 ?q17 ?q18 ?q19 ?q20 ?q21 ?q22 ?q23 ?q24 ?q25 ?q26 ?q27 ?q28 ?q29 ?q30 ?q31 ?q32 ?q33 ?q34 ?q35 ?q36; (case q1 => k_is); (case q2 => k_is); (case q3 => k_is); (case q4 => k_is); (case q5 => k_is); (case q6 => decide +kernel); (case q7 => k_is); (case q8 => k_is); (case q9 => k_is); (case q10 => k_is); (case q11 => k_is); (case q12 => k_is); (case q13 => k_is); (case q14 => k_is); (case q15 => k_is); (case q16 => exact Eq.refl _); (case q17 => k_is); (case q18 => rfl); (case q19 => rfl); (case q20 => rfl); (case q21 => rfl); (case q22 => rfl); (case q23 => rfl); (case q24 => rfl); (case q25 => rfl); (case q26 => rfl); (case q27 => decide); (case q28 => rfl); (case q29 => rfl); (case q30 => rfl); (case q31 => exact fun a b => rfl); (case q32 => decide); (case q33 => decide); (case q34 => rfl); (case q35 => rfl); (case q36 => exact fun a b => rfl))
    (case xk_InvalidTable => refine' Vs.xclsk_mk (st := Lw.xs_InvalidTable) ?q1 ?q2 ?q3 ?q4 ?q5 ?q6 ?q7 ?q8 ?q9 ?q10 ?q11 ?q12 ?q13 ?q14 ?q15 ?q16 ?q17 ?q18 ?q19 ?q20 ?q21 ?q22 ?q23 ?q24 ?q25 ?q26 ?q27 ?q28 ?q29 ?q30 ?q31 ?q32 ?q33 ?q34 ?q35 ?q36; (case q1 => k_is); (case q2 => k_is); (case q3 => k_is); (case q4 => k_is); (case q5 => k_is); (case q6 => decide +kernel); (case q7 => k_is); (case q8 => k_is); (case q9 => k_is); (case q10 => k_is); (case q11 => k_is); (case q12 => k_is); (case q13 => k_is); (case q14 => k_is); (case q15 => k_is); (case q16 => exact Eq.refl _); (case q17 => k_is); (case q18 => rfl); (case q19 => rfl); (case q20 => rfl); (case q21 => rfl); (case q22 => rfl); (case q23 => rfl); (case q24 => rfl); (case q25 => rfl); (case q26 => rfl); (case q27 => decide); (case q28 => rfl); (case q29 => rfl); (case q30 => rfl); (case q31 => exact fun a b => rfl); (case q32 => decide); (case q33 => decide); (case q34 => rfl); (case q35 => rfl); (case q36 => exact fun a b => rfl))
    (case xk_NotWhole => refine' Vs.xclsk_mk (st := Lw.xs_NotWhole) ?q1 ?q2 ?q3 ?q4 ?q5 ?q6 ?q7 ?q8 ?q9 ?q10 ?q11 ?q12 ?q13 ?q14 ?q15 ?q16 ?q17 ?q18 ?q19 ?q20 ?q21 ?q22 ?q23 ?q24 ?q25 ?q26 ?q27 ?q28 ?q29 ?q30 ?q31 ?q32 ?q33 ?q34 ?q35 ?q36; (case q1 => k_is); (case q2 => k_is); (case q3 => k_is); (case q4 => k_is); (case q5 => k_is); (case q6 => decide +kernel); (case q7 => k_is); (case q8 => k_is); (case q9 => k_is); (case q10 => k_is); (case q11 => k_is); (case q12 => k_is); (case q13 => k_is); (case q14 => k_is); (case q15 => k_is); (case q16 => exact Eq.refl _); (case q17 => k_is); (case q18 => rfl); (case q19 => rfl); (case q20 => rfl); (case q21 => rfl); (case q22 => rfl); (case q23 => rfl); (case q24 => rfl); (case q25 => rfl); (case q26 => rfl); (case q27 => decide); (case q28 => rfl); (case q29 => rfl); (case q30 => rfl); (case q31 => exact fun a b => rfl); (case q32 => decide); (case q33 => decide); (case q34 => rfl); (case q35 => rfl); (case q36 => exact fun a b => rfl))
    (case xk_TooMany => refine' Vs.xclsk_mk (st := Lw.xs_TooMany) ?q1 ?q2 ?q3 ?q4 ?q5 ?q6 ?q7 ?q8 ?q9 ?q10 ?q11 ?q12 ?q13 ?q14 ?q15 ?q16 ?q17 ?q18 ?q19 ?q20 ?q21 ?q22 ?q23 ?q24 ?q25 ?q26 ?q27 ?q28 ?q29 ?q30 ?q31 ?q32 ?q33 ?q34 ?q35 ?q36; (case q1 => k_is); (case q2 => k_is); (case q3 => k_is); (case q4 => k_is); (case q5 => k_is); (case q6 => decide +kernel); (case q7 => k_is); (case q8 => k_is); (case q9 => k_is); (case q10 => k_is); (case q11 => k_is); (case q12 => k_is); (case q13 => k_is); (case q14 => k_is); (case q15 => k_is); (case q16 => exact Eq.refl _); (case q17 => k_is); (case q18 => rfl); (case q19 => rfl); (case q20 => rfl); (case q21 => rfl); (case q22 => rfl); (case q23 => rfl); (case q24 => rfl); (case q25 => rfl); (case q26 => rfl); (case q27 => decide); (case q28 => rfl); (case q29 => rfl); (case q30 => rfl); (case q31 => exact fun a b => rfl); (case q32 => decide); (case q33 => decide); (case q34 => rfl); (case q35 => rfl); (case q36 => exact fun a b => rfl))
    (case xk_WouldGo => refine' Vs.xclsk_mk (st := Lw.xs_WouldGo) ?q1 ?q2 ?q3 ?q4 ?q5 ?q6 ?q7 ?q8 ?q9 ?q10 ?q11 ?q12 ?q13 ?q14 ?q15 ?q16 ?q17 ?q18 ?q19 ?q20 ?q21 ?q22 ?q23 ?q24 ?q25 ?q26 ?q27 ?q28 ?q29 ?q30 ?q31 ?q32 ?q33 ?q34 ?q35 ?q36; (case q1 => k_is); (case q2 => k_is); (case q3 => k_is); (case q4 => k_is); (case q5 => k_is); (case q6 => decide +kernel); (case q7 => k_is); (case q8 => k_is); (case q9 => k_is); (case q10 => k_is); (case q11 => k_is); (case q12 => k_is); (case q13 => k_is); (case q14 => k_is); (case q15 => k_is); (case q16 => exact Eq.refl _); (case q17 => k_is); (case q18 => rfl); (case q19 => rfl); (case q20 => rfl); (case q21 => rfl); (case q22 => rfl); (case q23 => rfl); (case q24 => rfl); (case q25 => rfl); (case q26 => rfl); (case q27 => decide); (case q28 => rfl); (case q29 => rfl); (case q30 => rfl); (case q31 => exact fun a b => rfl); (case q32 => decide); (case q33 => decide); (case q34 => rfl); (case q35 => rfl); (case q36 => exact fun a b => rfl))
    (case xd_InvalidText => refine' Vs.xcls2_mk (st := Lw.xs_InvalidText) ?q1 ?q2 ?q3 ?q4 ?q5 ?q6 ?q7 ?q8 ?q9 ?q10 ?q11 ?q12 ?q13 ?q14 ?q15 ?q16 ?q17 ?q18 ?q19 ?q20 ?q21 ?q22 ?q23 ?q24 ?q25 ?q26 ?q27 ?q28 ?q29 ?q30 ?q31 ?q32 ?q33 ?q34 ?q35 ?q36 ?q37 ?q38 ?q39 ?q40 ?q41; (case q1 => k_is); (case q2 => k_is); (case q3 => k_is); (case q4 => k_is); (case q5 => k_is); (case q6 => decide +kernel); (case q7 => k_is); (case q8 => k_is); (case q9 => k_is); (case q10 => k_is); (case q11 => k_is); (case q12 => k_is); (case q13 => k_is); (case q14 => k_is); (case q15 => k_is); (case q16 => k_is); (case q17 => exact Eq.refl _); (case q18 => k_is); (case q19 => rfl); (case q20 => rfl); (case q21 => rfl); (case q22 => rfl); (case q23 => rfl); (case q24 => rfl); (case q25 => rfl); (case q26 => rfl); (case q27 => rfl); (case q28 => rfl); (case q29 => decide); (case q30 => rfl); (case q31 => rfl); (case q32 => rfl); (case q33 => exact fun a b c => rfl); (case q34 => exact fun a b c => rfl); (case q35 => decide); (case q36 => decide); (case q37 => decide); (case q38 => decide); (case q39 => decide); (case q40 => rfl); (case q41 => rfl))
