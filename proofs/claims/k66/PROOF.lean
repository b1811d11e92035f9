import PyProof.Rows.All
import Wide.All
import OpenK.AllK
import Wide.FinOn
import KE.KExcSuper
import HandS.ForMost
import HandS.ForExc
import HandS.ExcInit
import HandS.Walk
import HandS.Steps
import HandS.TupAny
import HandS.Style
import HandS.IsInst
import HandS.Defaults
import KE.KExcIs
import HandS.ExcIs
import HandS.ExcField
import HandS.ExcOwn
import HandS.SetFor
import HandS.Strs
import HandS.Sort
import HandS.Iter
import KE.GoesEnum
import HandS.Star
import HandS.Ends
import KE.RegKSuper
import HandS.More
import PySem.Challenge.RW_adjoinedtongues_k66_machines_read_string
set_option Elab.async false
set_option linter.all false
set_option maxRecDepth 100000
set_option maxHeartbeats 2000000
/-! FLT: an own exception class over own classes over ValueError, whose __init__ is  super().__init__("..") ; self.f = p . -/
namespace PySem
namespace FltX
open PySem.W PySem.Calls PyProof.Rows PySem.HandSPX
def fA (f : Str) (p1 p2 : Pos) : Arguments := { posonlyargs := [], args := [{ arg := "self", annotation := none, pos := p1 }, { arg := f, annotation := none, pos := p2 }], vararg := none, kwonlyargs := [], kw_defaults := [], kwarg := none, defaults := [] }
def fB (f msg : Str) (mk : Nat) (q1 q2 q3 q4 q5 q6 r1 r2 r3 r4 : Pos) : List Stmt := [.Expr (.Call (.Attribute (.Call (.Name "super" q1) [] [] q2) "__init__" q3) [.Constant (.str msg) mk q4] [] q5) q6,
  .Assign [.Attribute (.Name "self" r1) f r2] (.Name f r3) r4]
/-- what the written part says of such a class, at C; its __init__ at fI -/
structure Flt (p : Program) (K : Frag) (C fI : Addr) (f : Str) : Prop where
  cls : ∃ nm q N bs bm sn sub ab col dd k0 k1 k2 k3 k5, K.lookup C = some (excClassObj nm q C N bs bm true sn sub ab col dd k0 k1 k2 k3 k5 "ValueError.__new__") ∧ refsVE bm = true
  sa : findIn K (.ref C) "__setattr__" = some (some (.builtin "object.__setattr__"))
  noN : findIn K (.ref C) f = some none
  iC : findIn K (.ref C) "__init__" = some (some (.ref fI))
  tI : typeIn K (.ref fI) = some (.type "function")
  kC : keepIn K (.ref C) = true
  exC : subIn K (.ref C) (.type "BaseException") = some true
  veC : subIn K (.ref C) (.type "ValueError") = some true
  tyC : typeIn K (.ref C) = some (.type "type")
  mro : mroIn K C (.ref C) = some true
  sup : ks_superIn K C C "__init__" = some (some (.builtin "ValueError.__init__"))
  opq : nsIn K cStatics "thirdparty.any" = some none
  noS : nsIn K mainGlobals "super" = some none
  fn : ∃ (msg : Str) (mk : Nat) (qual : Str) (oc : Value) (od : Option Addr) (doc pm : Value) (an : Option Addr) (cda cc : Addr) (ct : Value) (osl : Array (Option Value)) (sc : Scope) (p1 p2 q1 q2 q3 q4 q5 q6 r1 r2 r3 r4 : Pos)
    (ccl : Value) (cdd : Option Addr) (vs : Array Value) (ccs : Array (Option Value)) (file : Str) (tf : Tok) (cl : Value) (cld : Option Addr) (csl : Array (Option Value)),
    K.lookup fI = some ⟨oc, od, .func (ksFn "__init__" qual (fA f p1 p2) (fB f msg mk q1 q2 q3 q4 q5 q6 r1 r2 r3 r4) sc .none .none doc pm an (.ref cda) ct cc), osl⟩ ∧ codeIn K (.ref cda) qual = true ∧
    K.lookup cda = some ⟨ccl, cdd, .fields vs, ccs⟩ ∧ vs[2]? = some (.str file tf) ∧ ((p.main.file : Str) == file) = true ∧
    K.lookup cc = some ⟨cl, cld, .cell (some (.ref C)), csl⟩ ∧
    sc.names.lookup ("super" : Str) = some .globalImplicit ∧ sc.names.lookup ("__class__" : Str) = some .free ∧ sc.names.lookup ("self" : Str) = some .local ∧ sc.names.lookup f = some .local ∧
    sc.kind = .function ∧ sc.isCoroutine = false ∧ sc.isGenerator = false ∧ (∀ y ∈ sc.names, y.2 ≠ .cell) ∧
    (∀ a b : Value, bindArgs (ksFn "__init__" qual (fA f p1 p2) (fB f msg mk q1 q2 q3 q4 q5 q6 r1 r2 r3 r4) sc .none .none doc pm an (.ref cda) ct cc) ⟨[a, b], []⟩ = pure [(("self" : Str), a), (f, b)]) ∧
    (∃ pl : Sem Bool, ∀ env : Env, eval (.Call (.Attribute (.Call (.Name "super" q1) [] [] q2) "__init__" q3) [.Constant (.str msg) mk q4] [] q5) env = (do
      let ov ← attributeBase (.Call (.Name "super" q1) [] [] q2) "__init__" env (eval (.Call (.Name "super" q1) [] [] q2) env)
      standAt q3.atName
      let (f, first) ← holding [ov] (getMethod ov "__init__" pl)
      callWith q5 f first (backTo q5 (starEach [.Constant (.str msg) mk q4] env)) []))
  top : (p.main.scope.names.lookup ("super" : Str)).isSome = false
  fne : ("self" : Str) ≠ f
  fdb : (f == ("__debug__" : Str)) = false
structure InitEnd (h h' : Heap) (x C dx t1 : Addr) (f : Str) (v : Value) : Prop where
  keep : ∀ b o, b ≠ x → h.get? b = some o → h'.get? b = some o
  obj : h'.get? x = some { cls := .ref C, dict := some dx, data := .fields #[.ref t1, .none, .none, .none, .bool false, .none] }
  dbig : h.objs.size ≤ dx
  dne : dx ≠ x
  ns : h'.Ns1 dx (fun y => if y = f then some v else none)
section
variable {prog : Program} {w : World} {A : Around} {E : Value → Shared → Prop} {R : Result → Shared → Prop} {s : Shared} {K : Frag} {mg mb : Str → Option Value} {C fI : Addr} {f : Str}
theorem flt_init (T : Flt prog K C fI f) {x t0 : Addr} {v : Value} (X : K.In s.heap) (hlim : s.heap.NoLimit) (hx : s.heap.get? x = some (excO C t0)) (hnx : K.lookup x = none) (hroom : A.depth < recursionLimit)
    (hmg : s.heap.Ns mainGlobals mg) (hmb : s.heap.Ns builtinsNs mb) (hsup : mg "super" = none) (hbs : mb "super" = some (.type "super"))
    (hq : ∀ h' tk dx t1, InitEnd s.heap h' x C dx t1 f v → R (.ok (.ret .none)) { s with heap := h', toks := tk }) :
    codeAny (model prog w) A (.call (.ref fI) ⟨[.ref x, v], []⟩) R s := by
  obtain ⟨msg, mk, qual, oc, od, doc, pm, an, cda, cc, ct, osl, sc, p1, p2, q1, q2, q3, q4, q5, q6, r1, r2, r3, r4, ccl, cdd, vs, ccs, file, tf, cl, cld, csl, hf, hcd, hcode, hvs, hfile, hcell, n1, n2, n3, n4, sk, sco, sge, snc, hbi, pl, hpl⟩ := T.fn
  obtain ⟨nm, q, N, bs, bm, sn, sub, ab, col, dd, k0, k1, k2, k3, k5, hC, hbm⟩ := T.cls
  have hcl : clsIn K C = some { name := nm, bases := bs, mro := .ref C :: bm, ns := N, qualname := q, hasDict := true, slotNames := sn, subclasses := sub, abstract := ab, collection := col, hasDel := false } := by unfold clsIn; rw [hC] <;> rfl
  have hloc : ∀ y ∈ ([("self", .ref x), (f, v)] : List (Str × Value)), sc.names.lookup y.1 = some .local := fun y hy => by
    simp only [List.mem_cons, List.not_mem_nil, or_false] at hy
    rcases hy with rfl | rfl
    · exact n3
    · exact n4
  refine ks_codeAny_call_defAt (fd := ksFn "__init__" qual (fA f p1 p2) (fB f msg mk q1 q2 q3 q4 q5 q6 r1 r2 r3 r4) sc .none .none doc pm an (.ref cda) ct cc) (binds := [("self", .ref x), (f, v)]) hroom (X _ _ hf) rfl hlim (codeRec_of X hcd) rfl
    (BindsTo.of_eq (hbi _ _)) snc hloc (fun h₁ hns hk₁ => ?_) sco sge sk
  -- behind the arguments
  have up1 : ∀ b o, s.heap.get? b = some o → h₁.get? b = some o := hk₁
  have X1 : K.In h₁ := X.keeps up1
  have hx1 := up1 _ _ hx
  have hmg1 := hmg.keeps up1
  have hmb1 := hmb.keeps up1
  have hL : s.heap.objs.size ≠ x := Nat.ne_of_gt (Heap.lt_size hx)
  have hD : ∃ oD cdD, h₁.get? C = some oD ∧ oD.data = .cls cdD ∧ clsIn K C = some cdD := ⟨_, _, X1 _ _ hC, rfl, hcl⟩
  have I1 : InstAt h₁ x (excO C t0) C none := ⟨hx1, rfl, rfl, trivial⟩
  have envEq : callEnv (ksFn "__init__" qual (fA f p1 p2) (fB f msg mk q1 q2 q3 q4 q5 q6 r1 r2 r3 r4) sc .none .none doc pm an (.ref cda) ct cc) s.heap.objs.size fI = ksEnv qual sc s.heap.objs.size fI (.ref cda) cc := rfl
  rw [envEq]
  obtain ⟨hp0, g0, d0, tk0, os0⟩ := s
  refine ks_wpAt_execs_cons ?_
  refine ks_wpAt_Expr_any ?_ (by first | rfl | (simp [interactive, sk])) (by rfl)
  refine ks_wpAt_MethodCall ?_ (hpl _)
  obtain ⟨oD, cdD, hD1, hD2, hD3⟩ := hD
  refine ks_wpAt_super_base (env := ksEnv qual sc hp0.objs.size fI (.ref cda) cc) n1 n2 rfl rfl (X1 _ _ hf) rfl (ar := { arg := "self", annotation := none, pos := p1 }) rfl rfl (X1 _ _ hcode) rfl hvs hfile T.top ?_
  refine ks_loadName_global sk n1 (loadGlobal_builtin (env := ksEnv qual sc hp0.objs.size fI (.ref cda) cc) hmg1 hsup hmb1 hbs ⟨rfl, ?_⟩)
  refine wpAny_loadName_free sk n2 rfl ⟨_, X1 _ _ hcell, rfl⟩ ?_
  refine wpAny_loadName_local sk n3 hns (v := .ref x) ?hv ?_
  case hv =>
    show List.lookup ("self" : Str) ([(f, v), (("self" : Str), Value.ref x)] : List (Str × Value)) = _
    have e1 : (("self" : Str) == f) = false := by simpa using T.fne
    rw [List.lookup_cons, e1]
    rfl
  refine ks_wpAny_isType_cls hD1 hD2 ⟨rfl, ?_⟩
  refine ks_wpAny_call_super hD1 hD2 I1.at_ I1.cls (fun c e => by cases e) (looks_mroIn X1 T.mro) (fun h2 e2 k2 => ?_)
  have X2 : K.In h2 := X1.keeps k2
  have hx2 := k2 _ _ hx1
  have hxC : x ≠ C := by
    rintro rfl
    rw [hC] at hnx
    cases hnx
  have hI2 : Looks (model prog w) h2 (isInstance (.ref x) (.type "ValueError")) true := (show InstAt h2 x (excO C t0) C none from ⟨hx2, rfl, rfl, trivial⟩).type.andThen (looks_subIn X2 T.veC)
  have hmro2 : Looks (model prog w) h2 (mroOf (.ref C)) (.ref C :: bm) := (looks_clsIn X2 hcl).andThen .now
  have hal : alongIn K "__init__" (((.ref C :: bm).dropWhile (· != .ref C)).drop 1) = some (some (.builtin "ValueError.__init__")) := by
    have := T.sup
    unfold ks_superIn at this
    rw [hcl] at this
    exact this
  refine kxs_getMethod kxs_ValueError e2 (looks_opaque X2 T.opq) hmro2 rfl X2 hal hI2 hxC rfl ?_
  show wpAny _ _ (callWith q5 (.ref h2.objs.size) [] (backTo q5 (starEach [Expr.Constant (Const.str msg) mk q4] _)) []) _ _ _
  have k3 : ∀ b o, h2.get? b = some o → (h2.push (kxs_mw "ValueError.__init__" x)).get? b = some o := fun b o e => Heap.get?_push_of_some _ e
  have hu : (h2.push (kxs_mw "ValueError.__init__" x)).get? h2.objs.size = some (kxs_mw "ValueError.__init__" x) := Heap.get?_push_at rfl rfl
  refine kxs_callWith (i := "ValueError.__init__") (x := x) (by rfl) ?_
  refine evalArgs_plain ?_
  refine Calls.spliced_cons ?_
  refine Calls.Constant_str (pos := q4) (k := mk) ?_
  refine Calls.spliced_nil ⟨hu, ?_⟩
  -- the call of the wrapper
  have he3 : (h2.push (kxs_mw "ValueError.__init__" x)).get? x = some (excO C t0) := k3 _ _ hx2
  have hC3 := (X2.keeps k3) _ _ hC
  refine wpAny_call (codeAny_of_tree ?_)
  show wpAny _ _ (callAny (.ref h2.objs.size) ⟨[_], []⟩) _ _ _
  simp only [callAny]
  refine wpAny_bind (wpAny_load hu ?_)
  simp only [kxs_mw, show (Value.type "method-wrapper" == Value.type "method" || Value.type "method-wrapper" == Value.type "builtin_function_or_method" || Value.type "method-wrapper" == Value.type "method-wrapper") = true by decide, if_true]
  refine KFB.if_so (by decide) ?_
  refine wpAny_bind (check_bound_init F.excBase_ValueError.toExcCallFacts hC3 he3 rfl ?_)
  refine wpAny_bind (wpAny_pure (wpAny_pure ?_))
  refine ⟨plainId_quiet F.excBase_ValueError.init.plain _, codeAny_builtin F.excBase_ValueError.initEntry ?_⟩
  refine exc_init_tree (cls := .ref C) (t0 := t0) (dv := none) (c2 := .none) (c3 := .none) (b4 := .bool false) he3 (by rw [sizeLine_eq]; exact (by decide : 1 ≤ 16777216)) fun h4 k4 e4 t4 => ?_
  -- self.f = p
  have k24 : ∀ b o, b ≠ x → h2.get? b = some o → h4.get? b = some o := fun b o hb e => k4 b o hb (k3 b o e)
  have X4 : K.In h4 := fun b o e => k24 b o (fun z => by rw [z, hnx] at e; cases e) (X2 b o e)
  have hns4 : h4.Ns hp0.objs.size (fun y => List.lookup y ([(f, v), (("self" : Str), Value.ref x)] : List (Str × Value))) := by
    obtain ⟨o, es, ep, a1, a2⟩ := hns
    exact ⟨o, es, ep, k24 _ _ hL (k2 _ _ a1), a2⟩
  have e1 : (("self" : Str) == f) = false := by simpa using T.fne
  refine wpAt_of_wpAny ?_
  refine wpAny_execs_cons (plainObj_wpAny_Assign_Attribute ?_ (by rfl))
  refine wpAny_Name (wpAny_loadName_local sk n4 hns4 (v := v) ?_ ?_) T.fdb
  · show List.lookup f _ = _
    rw [List.lookup_cons]
    simp
  refine wpAny_Name (wpAny_loadName_local sk n3 hns4 (v := .ref x) ?_ ?_) (by decide)
  · show List.lookup ("self" : Str) _ = _
    rw [List.lookup_cons, e1]
    rfl
  refine set_plain X4 (ox := excO C (h2.push (kxs_mw "ValueError.__init__" x)).objs.size) (od := none) ⟨e4, rfl, rfl, trivial⟩ T.sa ?_
  refine exc_osa X4 e4 hcl (show refsVE (.ref C :: bm) = true from hbm) rfl T.noN (fun h5 tk5 dx k5 dn dne hx5 hn5 => ?_)
  refine wpAny_execs_nil ?_
  have lt0 : hp0.objs.size < h₁.objs.size := hns.lt
  have lt2 : h₁.objs.size ≤ h2.objs.size := Nat.le_of_lt (Heap.lt_size e2)
  have lt4 : h2.objs.size ≤ h4.objs.size := Nat.le_of_lt (Heap.lt_size (k4 _ _ (fun z => by
    have := Heap.lt_size hx2
    rw [z] at this
    exact absurd this (Nat.lt_irrefl _)) hu))
  exact hq h5 tk5 dx _ ⟨fun b o hb e => k5 b o hb (k24 b o hb (k2 b o (up1 b o e))), hx5, Nat.le_trans (Nat.le_of_lt (Nat.lt_of_lt_of_le lt0 (Nat.le_trans lt2 lt4))) dn, dne, hn5⟩
/-- a made one -/
structure Made (h h' : Heap) (e C d : Addr) (f : Str) (v : Value) : Prop where
  keep : ∀ b o, h.get? b = some o → h'.get? b = some o
  new : h.objs.size ≤ e
  obj : ∃ oe vs, h'.get? e = some oe ∧ oe.cls = .ref C ∧ oe.dict = some d ∧ oe.data = .fields vs ∧ vs[1]? = some .none
  dbig : h.objs.size ≤ d
  dne : d ≠ e
  ns : h'.Ns1 d (fun y => if y = f then some v else none)
theorem one_size (v : Value) : [v].length ≤ sizeLine := by
  rw [sizeLine_eq]
  exact (by decide : 1 ≤ 16777216)
theorem flt_made (T : Flt prog K C fI f) {v : Value} (X : K.In s.heap) (hlim : s.heap.NoLimit) (hroom : A.depth + 1 < recursionLimit)
    (hmg : s.heap.Ns mainGlobals mg) (hmb : s.heap.Ns builtinsNs mb) (hsup : mg "super" = none) (hbs : mb "super" = some (.type "super"))
    (hq : ∀ h' tk e d, Made s.heap h' e C d f v → R (.ok (.ret (.ref e))) { s with heap := h', toks := tk }) :
    codeAny (model prog w) A (.call (.ref C) ⟨[v], []⟩) R s := by
  obtain ⟨nm, q, N, bs, bm, sn, sub, ab, col, dd, k0, k1, k2, k3, k5, hC, hbm⟩ := T.cls
  obtain ⟨hp, g, dr, tk, os⟩ := s
  have k : ∀ b o, hp.get? b = some o → ((hp.push (kdv_tup [v])).push (excO C hp.objs.size)).get? b = some o := fun b o e => Heap.get?_push_of_some _ (Heap.get?_push_of_some _ e)
  have hget : ((hp.push (kdv_tup [v])).push (excO C hp.objs.size)).get? (hp.objs.size + 1) = some (excO C hp.objs.size) := by heap_get
  have hnx : K.lookup (hp.objs.size + 1) = none := by
    cases e : K.lookup (hp.objs.size + 1) with
    | none => rfl
    | some o =>
      have z : hp.get? (hp.objs.size + 1) = some o := X _ _ e
      exact absurd (Nat.lt_of_succ_lt (Heap.lt_size z)) (Nat.lt_irrefl _)
  refine call_own F.excBase_ValueError (fun X => refsVE_contains X bm hbm) (X _ _ hC) (looks_findIn X T.iC) (fun self => bind_fn X self T.tI) (one_size v) ?_
  refine flt_init (s := ⟨(hp.push (kdv_tup [v])).push (excO C hp.objs.size), g, dr, tk, os⟩) (mg := mg) (mb := mb) T (X.keeps k) (hlim.keeps k) hget hnx ?_ (hmg.keeps k) (hmb.keeps k) hsup hbs fun h' tk' dx t1 ⟨k', hx, dn, dne, hns⟩ => ?_
  · show A.depth + 1 < recursionLimit
    exact hroom
  · have old : ∀ b o, hp.get? b = some o → h'.get? b = some o := fun b o e => k' b o (Nat.ne_of_lt (Nat.lt_succ_of_lt (Heap.lt_size e))) (k b o e)
    have z : hp.objs.size + 1 + 1 ≤ dx := by
      first
        | (simpa only [Heap.size_push] using dn)
        | exact dn
        | (have q := dn; rw [Heap.size_push, Heap.size_push] at q; exact q)
    exact ⟨rfl, hq h' tk' (hp.objs.size + 1) dx ⟨old, Nat.le_succ _, ⟨_, _, hx, rfl, rfl, rfl, rfl⟩, Nat.le_trans (Nat.le_trans (Nat.le_succ _) (Nat.le_succ _)) z, dne, hns⟩⟩
end
end FltX
end PySem
namespace PL
open PySem PySem.Spec PyProof.Rows L2
theorem relO_one {f : Str} {v : V} {v' : Value} (r : RelV v v') (g : Str) : RelO (List.lookup g [(f, v)]) (if g = f then some v' else none) := by
  by_cases hw : g = f
  · subst hw
    rw [if_pos rfl]
    have q : List.lookup g [(g, v)] = some v := by simp [List.lookup]
    rw [q]
    exact r
  · rw [if_neg hw]
    have qw : (g == f) = false := by simpa using hw
    have q2 : List.lookup g [(f, v)] = none := by simp [List.lookup, qw]
    rw [q2]
    trivial
section
variable {X : Cx} {C fI : Addr} {f : Str}
/-- C(e) -/
def tMkF (C : Addr) (f : Str) (ta : TA) : L2.St → Hp → XK → Prop := fun σ H Q => ta σ H fun vs H1 => ∃ v, vs = [v] ∧ ∀ d, H1 d = none → Q (.ref C) (some d) (upd H1 d (.xd [(f, v)]))
theorem pmk_flt {x : Str} {a : Expr} {ta : TA} {p pos : Pos} {k : Nat} (T : PySem.FltX.Flt X.prog X.K C fI f) (gC : X.mg x = some (.ref C)) (hr : Room (k + 1) X.A) (hsup : X.mg "super" = none) (ha : PA X [a] ta) (hg : Gl X x := by rfl)
    (hdb : (x == ("__debug__" : Str)) = false := by decide)
    (he : starEach (a :: []) X.env = (false, eval a X.env) :: starEach [] X.env := by rfl) (hpl : (backTo pos (starEach [] X.env)).any (·.1) = false := by rfl) :
    PMk X (.Call (.Name x p) [a] [] pos) (tMkF C f ta) := by
  intro pins s σ H Q I h
  refine wpAny_Call_Name_kw (ld_glob I hg gC ?_ hdb)
  refine PySem.W.callWith_K (h₀ := X.base) I.ok.mod.kin T.kC (thn (ha.run pos pins s σ H _ I h) fun us s1 hh => ?_) he hpl
  obtain ⟨vs, H1, I1, r1, v, ev, q1⟩ := hh
  subst ev
  refine ⟨I1.kIn, ?_⟩
  cases r1 with
  | cons rv rn =>
    rename_i v' us'
    cases rn
    show wpAny _ _ (call (.ref C) [v']) _ _ _
    have hlim := I1.nolimit
    obtain ⟨mb, hb1, hb2⟩ := I1.mod.blt
    have hgl := I1.mod.glob.keeps I1.bk
    have hbl := hb1.keeps I1.bk
    have hbs : mb "super" = some (.type "super") := (hb2 _ (by decide)).trans (by decide +kernel)
    obtain ⟨hp, g, dr, tk, os⟩ := s1
    refine wpAny_call (PySem.FltX.flt_made T I1.kIn hlim (by have := hr.dp; omega) hgl hbl hsup hbs fun h' tk' e d M => ?_)
    show MkP X pins σ Q (.ref e) ⟨h', g, dr, tk', os⟩
    obtain ⟨oe, fv, hoe, hc, hd, hdat, h1⟩ := M.obj
    have hns := M.ns
    obtain ⟨G', g1, g2⟩ := restrict h' fun b => decide (b ≠ e)
    have gk : ∀ b, b ≠ e → G'.get? b = h'.get? b := fun b hb => g1 b (decide_eq_true hb)
    have ge : G'.get? e = none := g2 e (by simp)
    have old : ∀ b o, hp.get? b = some o → G'.get? b = some o := fun b o q => (gk b (Nat.ne_of_lt (Nat.lt_of_lt_of_le (Heap.lt_size q) M.new))).trans (M.keep b o q)
    have ob : ObjOk X.prog X.w (upd H1 d (.xd [(f, v)])) G' d (.xd [(f, v)]) :=
      ⟨_, hns.at (fun o q => (gk d M.dne).trans q), fun g => relO_one rv g⟩
    have J : Inv X pins σ (upd H1 d (.xd [(f, v)])) ⟨G', g, dr, tk', os⟩ := I1.laid (t' := tk') old M.dbig ob
    refine ⟨e, oe, fv, ⟨G', g, dr, tk', os⟩, _, .ref C, some d, rfl, J, fun b o q => ?_, ge, hoe, ⟨hc, hd⟩, hdat, h1, ?_, rfl, I1.bare, raises_own T.exC T.tyC, q1 d (I1.hok.fresh M.dbig)⟩
    · by_cases hb : b = e
      · have q' : G'.get? b = some o := q
        rw [hb, ge] at q'; cases q'
      · exact (gk b hb).symm.trans q
    · rw [upd_ne (Ne.symm M.dne)]
      exact I1.hok.fresh M.new
/-- raise C(e) -/
def tRaiseF (C : Addr) (f : Str) (E : XK) (ta : TA) : TS := fun _ σ H => tMkF C f ta σ H fun cls d H' => E cls d H'
theorem ps_raiseF {x : Str} {a : Expr} {ta : TA} {E : XK} {p pos pos2 : Pos} {k : Nat} (hc : X.calm = true) (T : PySem.FltX.Flt X.prog X.K C fI f) (gC : X.mg x = some (.ref C)) (hr : Room (k + 1) X.A) (hsup : X.mg "super" = none) (tk : Takes X (fun cls d _ H => E cls d H)) (ha : PA X [a] ta) (hg : Gl X x := by rfl)
    (hdb : (x == ("__debug__" : Str)) = false := by decide)
    (he : starEach (a :: []) X.env = (false, eval a X.env) :: starEach [] X.env := by rfl) (hpl : (backTo pos (starEach [] X.env)).any (·.1) = false := by rfl) :
    PS X (.Raise (some (.Call (.Name x p) [a] [] pos)) none pos2) (tRaiseF C f E ta) := ps_raise hc tk (pmk_flt T gC hr hsup ha hg hdb he hpl)
end
end PL

set_option Elab.async false
set_option linter.all false
set_option maxRecDepth 100000
set_option maxHeartbeats 1000000
/-! DL1: plain data D over the hand layer: what represents it, slots, states, judgements on data. -/
namespace PL
open PySem L2

inductive D where
  | non | bl (b : Bool) | int (i : Int) | str (s : Str)
  | lst (l : List D) | tup (l : List D)
  | dk (ks : List Key) (l : List D) | dt (ks : List (List Key)) (l : List D)
  | ins (C : Addr) (ns : List Str) (l : List D)
  | scr (l : List Int)

mutual
def Rep (K : PySem.W.Frag) (H : Hp) : D → V → Prop
  | .non, v => v = .non
  | .bl b, v => v = .bl b
  | .int i, v => v = .int i
  | .str s, v => v = .str s
  | .lst l, v => ∃ a vs, v = .ref a ∧ H a = some (.lst vs) ∧ RepL K H l vs
  | .tup l, v => ∃ a vs, v = .ref a ∧ H a = some (.tup vs) ∧ RepL K H l vs
  | .dk ks l, v => ∃ a vs, v = .ref a ∧ H a = some (.dK (ks.zip vs)) ∧ vs.length = ks.length ∧ RepL K H l vs
  | .dt ks l, v => ∃ a vs, v = .ref a ∧ H a = some (.dT (ks.zip vs)) ∧ vs.length = ks.length ∧ RepL K H l vs
  | .ins C ns l, v => ∃ a dx vs, v = .ref a ∧ H a = some (.ins C dx (ns.zip vs)) ∧ vs.length = ns.length ∧ RepL K H l vs
  | .scr l, v => ∃ a, v = .ref a ∧ SqL K H a (l.map V.int)
def RepL (K : PySem.W.Frag) (H : Hp) : List D → List V → Prop
  | [], vs => vs = []
  | d :: ds, vs => ∃ v r, vs = v :: r ∧ Rep K H d v ∧ RepL K H ds r
end

def Ex (H H' : Hp) : Prop := ∀ a o, H a = some o → H' a = some o
theorem Ex.refl (H : Hp) : Ex H H := fun _ _ h => h
theorem Ex.trans {H H1 H2 : Hp} (a : Ex H H1) (b : Ex H1 H2) : Ex H H2 := fun x o h => b x o (a x o h)
theorem Ex.new {H : Hp} {p : Addr} {o : HO} (h : H p = none) : Ex H (upd H p o) := fun a u e => by
  rw [upd_ne (ne_of_none e h)]; exact e
theorem Ex.mut {H H' : Hp} {p : Addr} {o : HO} (e : Ex H H') (h : H p = none) : Ex H (upd H' p o) := fun a u ha => by
  rw [upd_ne (ne_of_none ha h)]; exact e a u ha
theorem Ex.both {H H' : Hp} {p : Addr} {o : HO} (e : Ex H H') : Ex (upd H p o) (upd H' p o) := fun a u ha => by
  by_cases z : a = p
  · subst z; rw [upd_same] at ha ⊢; exact ha
  · rw [upd_ne z] at ha ⊢; exact e a u ha
theorem Ex.back {H H' : Hp} {p : Addr} (e : Ex H H') (h : H' p = none) : H p = none := by
  cases h1 : H p with
  | none => rfl
  | some o => rw [e p o h1] at h; cases h
theorem Ex.at {H H' : Hp} {p : Addr} (e : Ex H H') (h : H p ≠ none) : H' p ≠ none := by
  cases h1 : H p with
  | none => exact absurd h1 h
  | some o => rw [e p o h1]; simp
theorem Ex.put {G H : Hp} {p : Addr} {o : HO} (e : Ex G H) (h : H p = some o) : Ex (upd G p o) H := fun a u ha => by
  by_cases z : a = p
  · subst z; rw [upd_same] at ha; cases ha; exact h
  · rw [upd_ne z] at ha; exact e a u ha
theorem Ex.sqT {K : PySem.W.Frag} {H H' : Hp} {a : Addr} {xs : List V} (e : Ex H H') (h : SqT K H a xs) : SqT K H' a xs := by
  rcases h with (h | ⟨o, h⟩) | h
  · exact .inl (.inl (e _ _ h))
  · exact .inl (.inr ⟨o, e _ _ h⟩)
  · exact .inr h

theorem Ex.sqL {K : PySem.W.Frag} {H H' : Hp} {a : Addr} {xs : List V} (e : Ex H H') (h : SqL K H a xs) : SqL K H' a xs := by
  rcases h with (h | ⟨o, h⟩) | h
  · exact .inl (.inl (e _ _ h))
  · exact .inl (.inr ⟨o, e _ _ h⟩)
  · exact .inr h
mutual
theorem Rep.mono {K : PySem.W.Frag} {H H' : Hp} (e : Ex H H') : ∀ (d : D) (v : V), Rep K H d v → Rep K H' d v
  | .non, _, h => h
  | .bl _, _, h => h
  | .int _, _, h => h
  | .str _, _, h => h
  | .lst l, v, h => by
    obtain ⟨a, vs, e1, h1, h2⟩ := h
    exact ⟨a, vs, e1, e _ _ h1, RepL.mono e l vs h2⟩
  | .tup l, v, h => by
    obtain ⟨a, vs, e1, h1, h2⟩ := h
    exact ⟨a, vs, e1, e _ _ h1, RepL.mono e l vs h2⟩
  | .dk ks l, v, h => by
    obtain ⟨a, vs, e1, h1, h3, h2⟩ := h
    exact ⟨a, vs, e1, e _ _ h1, h3, RepL.mono e l vs h2⟩
  | .dt ks l, v, h => by
    obtain ⟨a, vs, e1, h1, h3, h2⟩ := h
    exact ⟨a, vs, e1, e _ _ h1, h3, RepL.mono e l vs h2⟩
  | .ins C ns l, v, h => by
    obtain ⟨a, dx, vs, e1, h1, h3, h2⟩ := h
    exact ⟨a, dx, vs, e1, e _ _ h1, h3, RepL.mono e l vs h2⟩
  | .scr l, v, h => by
    obtain ⟨a, e1, h1⟩ := h
    exact ⟨a, e1, e.sqL h1⟩
theorem RepL.mono {K : PySem.W.Frag} {H H' : Hp} (e : Ex H H') : ∀ (l : List D) (vs : List V), RepL K H l vs → RepL K H' l vs
  | [], _, h => h
  | d :: ds, vs, h => by
    obtain ⟨v, r, e1, h1, h2⟩ := h
    exact ⟨v, r, e1, Rep.mono e d v h1, RepL.mono e ds r h2⟩
end

section
variable {K : PySem.W.Frag} {G H G' H' G0 H0 : Hp}
theorem RepL.len : ∀ {l : List D} {vs : List V}, RepL K H l vs → vs.length = l.length
  | [], vs, h => by cases (show vs = [] from h); rfl
  | d :: ds, vs, h => by
    obtain ⟨v, r, e1, _, h2⟩ := h
    subst e1
    simp [RepL.len h2]
theorem RepL.get : ∀ {l : List D} {vs : List V} {i : Nat} {d : D}, RepL K H l vs → l[i]? = some d → ∃ v, vs[i]? = some v ∧ Rep K H d v
  | [], _, _, _, _, e => by simp at e
  | d :: ds, vs, 0, x, h, e => by
    obtain ⟨v, r, rfl, h1, h2⟩ := h
    simp at e; subst e
    exact ⟨v, rfl, h1⟩
  | d :: ds, vs, i + 1, x, h, e => by
    obtain ⟨v, r, rfl, h1, h2⟩ := h
    obtain ⟨u, e1, e2⟩ := RepL.get (i := i) h2 (by simpa using e)
    exact ⟨u, by simpa using e1, e2⟩
theorem RepL.get' : ∀ {l : List D} {vs : List V} {i : Nat} {v : V}, RepL K H l vs → vs[i]? = some v → ∃ d, l[i]? = some d ∧ Rep K H d v := fun {l vs i v} h e => by
  have hi : i < vs.length := (List.getElem?_eq_some_iff.mp e).1
  have hl : i < l.length := by rw [← h.len]; exact hi
  obtain ⟨u, e1, e2⟩ := h.get (List.getElem?_eq_getElem hl)
  rw [e1] at e; cases e
  exact ⟨_, List.getElem?_eq_getElem hl, e2⟩
theorem RepL.append : ∀ {l m : List D} {vs ws : List V}, RepL K H l vs → RepL K H m ws → RepL K H (l ++ m) (vs ++ ws)
  | [], _, vs, _, h, h' => by cases (show vs = [] from h); exact h'
  | d :: ds, _, vs, _, h, h' => by
    obtain ⟨v, r, rfl, h1, h2⟩ := h
    exact ⟨v, r ++ _, rfl, h1, RepL.append h2 h'⟩
theorem RepL.one {d : D} {v : V} (h : Rep K H d v) : RepL K H [d] [v] := ⟨v, [], rfl, h, rfl⟩
theorem RepL.take : ∀ (n : Nat) {l : List D} {vs : List V}, RepL K H l vs → RepL K H (l.take n) (vs.take n)
  | 0, _, _, _ => by simp [RepL]
  | n + 1, [], vs, h => by cases (show vs = [] from h); rfl
  | n + 1, d :: ds, vs, h => by
    obtain ⟨v, r, rfl, h1, h2⟩ := h
    exact ⟨v, _, rfl, h1, RepL.take n h2⟩
theorem RepL.drop : ∀ (n : Nat) {l : List D} {vs : List V}, RepL K H l vs → RepL K H (l.drop n) (vs.drop n)
  | 0, _, _, h => h
  | n + 1, [], vs, h => by cases (show vs = [] from h); rfl
  | n + 1, d :: ds, vs, h => by
    obtain ⟨v, r, rfl, h1, h2⟩ := h
    exact RepL.drop n h2
theorem RepL.set : ∀ (i : Nat) {l : List D} {vs : List V} {d : D} {v : V}, RepL K H l vs → Rep K H d v → RepL K H (l.set i d) (vs.set i v)
  | _, [], vs, _, _, h, _ => by cases (show vs = [] from h); rfl
  | 0, x :: ds, vs, d, v, h, hd => by
    obtain ⟨u, r, rfl, h1, h2⟩ := h
    exact ⟨v, r, rfl, hd, h2⟩
  | i + 1, x :: ds, vs, d, v, h, hd => by
    obtain ⟨u, r, rfl, h1, h2⟩ := h
    exact ⟨u, _, rfl, h1, RepL.set i h2 hd⟩
theorem RepL.reverse : ∀ {l : List D} {vs : List V}, RepL K H l vs → RepL K H l.reverse vs.reverse
  | [], vs, h => by cases (show vs = [] from h); rfl
  | d :: ds, vs, h => by
    obtain ⟨v, r, rfl, h1, h2⟩ := h
    rw [List.reverse_cons, List.reverse_cons]
    exact (RepL.reverse h2).append (.one h1)
theorem RepL.replicate {d : D} {v : V} (h : Rep K H d v) : ∀ n, RepL K H (List.replicate n d) (List.replicate n v)
  | 0 => rfl
  | n + 1 => ⟨v, _, rfl, h, RepL.replicate h n⟩
theorem RepL.ints : ∀ {ns : List Int} {vs : List V}, RepL K H (ns.map D.int) vs → vs = ns.map V.int
  | [], vs, h => h
  | n :: ns, vs, h => by
    obtain ⟨v, r, rfl, h1, h2⟩ := h
    have h1 : v = .int n := h1
    rw [h1, RepL.ints h2]; rfl
theorem RepL.of_ints : ∀ (ns : List Int), RepL K H (ns.map D.int) (ns.map V.int)
  | [] => rfl
  | n :: ns => ⟨_, _, rfl, rfl, RepL.of_ints ns⟩
theorem RepL.strs : ∀ {ns : List Str} {vs : List V}, RepL K H (ns.map D.str) vs → vs = ns.map V.str
  | [], vs, h => h
  | n :: ns, vs, h => by
    obtain ⟨v, r, rfl, h1, h2⟩ := h
    have h1 : v = .str n := h1
    rw [h1, RepL.strs h2]; rfl
theorem RepL.of_strs : ∀ (ns : List Str), RepL K H (ns.map D.str) (ns.map V.str)
  | [] => rfl
  | n :: ns => ⟨_, _, rfl, rfl, RepL.of_strs ns⟩

/-- allocation: what is seen (G) and what is there (H) grow -/
structure Ext (G H G' H' : Hp) : Prop where
  g : Ex G G'
  h : Ex H H'
  s : Ex G' H'
  n : ∀ p, H p ≠ none → G' p = G p
theorem Ext.refl (e : Ex G H) : Ext G H G H := ⟨Ex.refl _, Ex.refl _, e, fun _ _ => rfl⟩
theorem Ext.trans {G1 H1 G2 H2 : Hp} (a : Ext G H G1 H1) (b : Ext G1 H1 G2 H2) : Ext G H G2 H2 :=
  ⟨a.g.trans b.g, a.h.trans b.h, b.s, fun p hp => (b.n p (a.h.at hp)).trans (a.n p hp)⟩
theorem Ext.alloc {p : Addr} {o : HO} (e : Ex G H) (hp : H p = none) : Ext G H (upd G p o) (upd H p o) :=
  ⟨Ex.new (e.back hp), Ex.new hp, e.both, fun q hq => by rw [upd_ne]; rintro rfl; exact hq hp⟩
/-- a new object that is not seen yet -/
theorem Ext.hid {p : Addr} {o : HO} (e : Ex G H) (hp : H p = none) : Ext G H G (upd H p o) :=
  ⟨Ex.refl _, Ex.new hp, e.mut (e.back hp), fun _ _ => rfl⟩
theorem Ext.show_ {p : Addr} {o : HO} (x : Ext G0 H0 G H) (h0 : H0 p = none) (hg : G p = none) (hp : H p = some o) : Ext G0 H0 (upd G p o) H :=
  ⟨x.g.trans (Ex.new hg), x.h, x.s.put hp, fun q hq => by rw [upd_ne]; exact x.n q hq; rintro rfl; exact hq h0⟩
/-- an object that the entry does not know changes -/
theorem Ext.mut {p : Addr} {o : HO} (x : Ext G0 H0 G H) (h0 : H0 p = none) (hg : G p = none) : Ext G0 H0 G (upd H p o) :=
  ⟨x.g, x.h.mut h0, x.s.mut hg, x.n⟩

/-- the top of an object that may still change; what it holds is seen -/
def OwnO (K : PySem.W.Frag) (G : Hp) : D → HO → Prop
  | .lst l, .lst vs => RepL K G l vs
  | .dk ks l, .dK kvs => ∃ vs, kvs = ks.zip vs ∧ vs.length = ks.length ∧ RepL K G l vs
  | .dt ks l, .dT kvs => ∃ vs, kvs = ks.zip vs ∧ vs.length = ks.length ∧ RepL K G l vs
  | .ins C ns l, .ins C' dx fs => C' = C ∧ ∃ vs, fs = ns.zip vs ∧ vs.length = ns.length ∧ RepL K G l vs
  | _, _ => False
theorem OwnO.mono (e : Ex G G') {d : D} {o : HO} (h : OwnO K G d o) : OwnO K G' d o := by
  unfold OwnO at h ⊢
  split
  · exact RepL.mono e _ _ h
  · obtain ⟨vs, h1, h2, h3⟩ := h; exact ⟨vs, h1, h2, RepL.mono e _ _ h3⟩
  · obtain ⟨vs, h1, h2, h3⟩ := h; exact ⟨vs, h1, h2, RepL.mono e _ _ h3⟩
  · obtain ⟨h0, vs, h1, h2, h3⟩ := h; exact ⟨h0, vs, h1, h2, RepL.mono e _ _ h3⟩
  · simp_all
theorem OwnO.rep {d : D} {o : HO} {p : Addr} (h : OwnO K G d o) (hp : G p = some o) : Rep K G d (.ref p) := by
  unfold OwnO at h
  split at h
  · exact ⟨p, _, rfl, hp, h⟩
  · obtain ⟨vs, rfl, h2, h3⟩ := h; exact ⟨p, vs, rfl, hp, h2, h3⟩
  · obtain ⟨vs, rfl, h2, h3⟩ := h; exact ⟨p, vs, rfl, hp, h2, h3⟩
  · obtain ⟨rfl, vs, rfl, h2, h3⟩ := h; exact ⟨p, _, vs, rfl, hp, h2, h3⟩
  · exact h.elim

/-- an own object that holds own objects: leaves are data that stays -/
inductive Tp where
  | lst | dk (ks : List Key) | dt (ks : List (List Key)) | ins (C : Addr) (ns : List Str)
inductive O where
  | fz (d : D) | nd (t : Tp) (l : List O)
def Tp.ho : Tp → List V → HO → Prop
  | .lst, vs, u => u = .lst vs
  | .dk ks, vs, u => u = .dK (ks.zip vs) ∧ vs.length = ks.length
  | .dt ks, vs, u => u = .dT (ks.zip vs) ∧ vs.length = ks.length
  | .ins C ns, vs, u => ∃ dx, u = .ins C dx (ns.zip vs) ∧ vs.length = ns.length
def Tp.d : Tp → List D → D
  | .lst, l => .lst l
  | .dk ks, l => .dk ks l
  | .dt ks, l => .dt ks l
  | .ins C ns, l => .ins C ns l
mutual
def O.d : O → D
  | .fz d => d
  | .nd t l => t.d (O.dL l)
def O.dL : List O → List D
  | [] => []
  | o :: os => o.d :: O.dL os
end
theorem O.dL_map : ∀ l : List O, O.dL l = l.map O.d
  | [] => rfl
  | o :: os => by rw [O.dL, O.dL_map os]; rfl
mutual
def RepO (K : PySem.W.Frag) (H0 G H : Hp) : O → V → List Addr → Prop
  | .fz d, v, A => A = [] ∧ Rep K G d v
  | .nd t l, v, A => ∃ p u vs B, v = .ref p ∧ A = p :: B ∧ H0 p = none ∧ G p = none ∧ H p = some u ∧ t.ho vs u ∧ RepOL K H0 G H l vs B
def RepOL (K : PySem.W.Frag) (H0 G H : Hp) : List O → List V → List Addr → Prop
  | [], vs, A => vs = [] ∧ A = []
  | o :: os, vs, A => ∃ v r A1 A2, vs = v :: r ∧ A = A1 ++ A2 ∧ RepO K H0 G H o v A1 ∧ RepOL K H0 G H os r A2
end
mutual
/-- as long as G grows, and what the addresses hold stays -/
theorem RepO.map {G1 H1 : Hp} (e : Ex G G1) : ∀ (o : O) (v : V) (A : List Addr), RepO K H0 G H o v A → (∀ q ∈ A, G1 q = none ∧ H1 q = H q) → RepO K H0 G1 H1 o v A
  | .fz d, v, A, h, _ => ⟨h.1, Rep.mono e _ _ h.2⟩
  | .nd t l, v, A, h, f => by
    obtain ⟨p, u, vs, B, rfl, rfl, h0, hg, hh, ht, hl⟩ := h
    exact ⟨p, u, vs, B, rfl, rfl, h0, (f p (.head _)).1, by rw [(f p (.head _)).2]; exact hh, ht, RepOL.map e l vs B hl fun q hq => f q (.tail _ hq)⟩
theorem RepOL.map {G1 H1 : Hp} (e : Ex G G1) : ∀ (l : List O) (vs : List V) (A : List Addr), RepOL K H0 G H l vs A → (∀ q ∈ A, G1 q = none ∧ H1 q = H q) → RepOL K H0 G1 H1 l vs A
  | [], _, _, h, _ => h
  | o :: os, vs, A, h, f => by
    obtain ⟨v, r, A1, A2, rfl, rfl, h1, h2⟩ := h
    exact ⟨v, r, A1, A2, rfl, rfl, RepO.map e o v A1 h1 fun q hq => f q (List.mem_append_left _ hq), RepOL.map e os r A2 h2 fun q hq => f q (List.mem_append_right _ hq)⟩
theorem RepO.there : ∀ (o : O) (v : V) (A : List Addr), RepO K H0 G H o v A → ∀ q ∈ A, H0 q = none ∧ G q = none ∧ H q ≠ none
  | .fz d, v, A, h, q, hq => by rw [h.1] at hq; cases hq
  | .nd t l, v, A, h, q, hq => by
    obtain ⟨p, u, vs, B, rfl, rfl, h0, hg, hh, ht, hl⟩ := h
    rcases List.mem_cons.mp hq with rfl | hq
    · exact ⟨h0, hg, by rw [hh]; simp⟩
    · exact RepOL.there l vs B hl q hq
theorem RepOL.there : ∀ (l : List O) (vs : List V) (A : List Addr), RepOL K H0 G H l vs A → ∀ q ∈ A, H0 q = none ∧ G q = none ∧ H q ≠ none
  | [], _, _, h, q, hq => by rw [h.2] at hq; cases hq
  | o :: os, vs, A, h, q, hq => by
    obtain ⟨v, r, A1, A2, rfl, rfl, h1, h2⟩ := h
    rcases List.mem_append.mp hq with hq | hq
    · exact RepO.there o v A1 h1 q hq
    · exact RepOL.there os r A2 h2 q hq
/-- a heap that sees G and the addresses -/
theorem RepO.rep {G1 : Hp} (e : Ex G G1) : ∀ (o : O) (v : V) (A : List Addr), RepO K H0 G H o v A → (∀ q ∈ A, G1 q = H q) → Rep K G1 o.d v
  | .fz d, v, A, h, _ => Rep.mono e _ _ h.2
  | .nd t l, v, A, h, f => by
    obtain ⟨p, u, vs, B, rfl, rfl, h0, hg, hh, ht, hl⟩ := h
    have hp : G1 p = some u := by rw [f p (.head _)]; exact hh
    have hr := RepOL.rep e l vs B hl fun q hq => f q (.tail _ hq)
    cases t with
    | lst => cases (show u = .lst vs from ht); exact ⟨p, vs, rfl, hp, hr⟩
    | dk ks => obtain ⟨rfl, hn⟩ := ht; exact ⟨p, vs, rfl, hp, hn, hr⟩
    | dt ks => obtain ⟨rfl, hn⟩ := ht; exact ⟨p, vs, rfl, hp, hn, hr⟩
    | ins C ns => obtain ⟨dx, rfl, hn⟩ := ht; exact ⟨p, dx, vs, rfl, hp, hn, hr⟩
theorem RepOL.rep {G1 : Hp} (e : Ex G G1) : ∀ (l : List O) (vs : List V) (A : List Addr), RepOL K H0 G H l vs A → (∀ q ∈ A, G1 q = H q) → RepL K G1 (O.dL l) vs
  | [], _, _, h, _ => h.1
  | o :: os, vs, A, h, f => by
    obtain ⟨v, r, A1, A2, rfl, rfl, h1, h2⟩ := h
    exact ⟨v, r, rfl, RepO.rep e o v A1 h1 fun q hq => f q (List.mem_append_left _ hq), RepOL.rep e os r A2 h2 fun q hq => f q (List.mem_append_right _ hq)⟩
end

/-- slots: not known, data that stays, an object of the def's own, an own object that holds own objects -/
inductive Sl where
  | no | im (d : D) | ow (d : D) | dp (x : Option Addr) (o : O) | ex (a dd : Addr) (ns : List Str) (l : List D)
def SlotOk (K : PySem.W.Frag) (H0 G H : Hp) : Sl → Option V → Prop
  | .no, _ => True
  | .im d, ov => ∃ v, ov = some v ∧ Rep K G d v
  | .ow d, ov => ∃ p o, ov = some (.ref p) ∧ H0 p = none ∧ G p = none ∧ H p = some o ∧ OwnO K G d o
  | .dp x o, ov => ∃ v A, ov = some v ∧ (∀ a, x = some a → v = .ref a) ∧ RepO K H0 G H o v A ∧ A.Nodup
  | .ex a dd ns l, ov => ov = some (.ref a) ∧ ∃ vs, G dd = some (.xd (ns.zip vs)) ∧ vs.length = ns.length ∧ RepL K G l vs
/-- with the own addresses -/
def SlotA (K : PySem.W.Frag) (H0 G H : Hp) : Sl → Option V → List Addr → Prop
  | .no, _, A => A = []
  | .im d, ov, A => A = [] ∧ ∃ v, ov = some v ∧ Rep K G d v
  | .ow d, ov, A => ∃ p o, A = [p] ∧ ov = some (.ref p) ∧ H0 p = none ∧ G p = none ∧ H p = some o ∧ OwnO K G d o
  | .dp x o, ov, A => ∃ v, ov = some v ∧ (∀ a, x = some a → v = .ref a) ∧ RepO K H0 G H o v A
  | .ex a dd ns l, ov, A => A = [] ∧ ov = some (.ref a) ∧ ∃ vs, G dd = some (.xd (ns.zip vs)) ∧ vs.length = ns.length ∧ RepL K G l vs
theorem SlotA.ok {s : Sl} {ov : Option V} {A : List Addr} (h : SlotA K H0 G H s ov A) (nd : A.Nodup) : SlotOk K H0 G H s ov := by
  cases s with
  | no => trivial
  | im d => exact h.2
  | ow d => obtain ⟨p, o, _, h⟩ := h; exact ⟨p, o, h⟩
  | dp x o => obtain ⟨v, e, ex, h⟩ := h; exact ⟨v, A, e, ex, h, nd⟩
  | ex a dd ns l => exact h.2
theorem SlotOk.a {s : Sl} {ov : Option V} (h : SlotOk K H0 G H s ov) : ∃ A, SlotA K H0 G H s ov A ∧ A.Nodup := by
  cases s with
  | no => exact ⟨[], rfl, .nil⟩
  | im d => exact ⟨[], ⟨rfl, h⟩, .nil⟩
  | ow d => obtain ⟨p, o, h⟩ := h; exact ⟨[p], ⟨p, o, rfl, h⟩, by simp⟩
  | dp x o => obtain ⟨v, A, e, ex, h, nd⟩ := h; exact ⟨A, ⟨v, e, ex, h⟩, nd⟩
  | ex a dd ns l => exact ⟨[], ⟨rfl, h⟩, .nil⟩
theorem SlotA.map {G1 H1 : Hp} (e : Ex G G1) {s : Sl} {ov : Option V} {A : List Addr} (h : SlotA K H0 G H s ov A) (f : ∀ q ∈ A, G1 q = none ∧ H1 q = H q) : SlotA K H0 G1 H1 s ov A := by
  cases s with
  | no => exact h
  | im d => obtain ⟨z, v, e1, h⟩ := h; exact ⟨z, v, e1, Rep.mono e _ _ h⟩
  | ow d =>
    obtain ⟨p, o, rfl, e1, h0, hg, hh, h⟩ := h
    exact ⟨p, o, rfl, e1, h0, (f p (.head _)).1, by rw [(f p (.head _)).2]; exact hh, h.mono e⟩
  | dp x o => obtain ⟨v, e1, ex, h⟩ := h; exact ⟨v, e1, ex, RepO.map e _ _ _ h f⟩
  | ex a dd ns l => obtain ⟨z, e1, vs, h1, h2, h3⟩ := h; exact ⟨z, e1, vs, e _ _ h1, h2, RepL.mono e _ _ h3⟩
theorem SlotA.there {s : Sl} {ov : Option V} {A : List Addr} (h : SlotA K H0 G H s ov A) : ∀ q ∈ A, H0 q = none ∧ G q = none ∧ H q ≠ none := fun q hq => by
  cases s with
  | no => cases (show A = [] from h); cases hq
  | im d => rw [h.1] at hq; cases hq
  | ow d =>
    obtain ⟨p, o, rfl, e1, h0, hg, hh, h⟩ := h
    rcases List.mem_singleton.mp hq with rfl
    exact ⟨h0, hg, by rw [hh]; simp⟩
  | dp x o => obtain ⟨v, e1, _, h⟩ := h; exact RepO.there _ _ _ h q hq
  | ex a dd ns l => rw [h.1] at hq; cases hq
theorem there_ext {q : Addr} (x : Ext G H G' H') (h : H0 q = none ∧ G q = none ∧ H q ≠ none) : G' q = none ∧ H' q = H q := by
  refine ⟨by rw [x.n q h.2.2]; exact h.2.1, ?_⟩
  cases e : H q with
  | none => exact absurd e h.2.2
  | some u => exact x.h _ _ e
theorem SlotOk.ext {s : Sl} {ov : Option V} (x : Ext G H G' H') (h : SlotOk K H0 G H s ov) : SlotOk K H0 G' H' s ov := by
  obtain ⟨A, h, nd⟩ := h.a
  exact (h.map x.g fun q hq => there_ext x (h.there q hq)).ok nd
def Slots (K : PySem.W.Frag) (H0 G H : Hp) : List Sl → L2.St → List Addr → Prop
  | [], σ, A => σ = [] ∧ A = []
  | s :: r, σ, A => ∃ v t A1 A2, σ = v :: t ∧ A = A1 ++ A2 ∧ SlotA K H0 G H s v A1 ∧ Slots K H0 G H r t A2
theorem Slots.len : ∀ {r : List Sl} {σ : L2.St} {A : List Addr}, Slots K H0 G H r σ A → σ.length = r.length
  | [], σ, _, h => by rw [h.1]; rfl
  | s :: r, σ, _, h => by
    obtain ⟨v, t, _, _, rfl, _, _, h2⟩ := h
    simp [Slots.len h2]
theorem Slots.map {G1 H1 : Hp} (e : Ex G G1) : ∀ {r : List Sl} {σ : L2.St} {A : List Addr}, Slots K H0 G H r σ A → (∀ q ∈ A, G1 q = none ∧ H1 q = H q) → Slots K H0 G1 H1 r σ A
  | [], _, _, h, _ => h
  | s :: r, σ, A, h, f => by
    obtain ⟨v, t, A1, A2, rfl, rfl, h1, h2⟩ := h
    exact ⟨v, t, A1, A2, rfl, rfl, h1.map e fun q hq => f q (List.mem_append_left _ hq), Slots.map e h2 fun q hq => f q (List.mem_append_right _ hq)⟩
theorem Slots.there : ∀ {r : List Sl} {σ : L2.St} {A : List Addr}, Slots K H0 G H r σ A → ∀ q ∈ A, H0 q = none ∧ G q = none ∧ H q ≠ none
  | [], _, _, h, q, hq => by rw [h.2] at hq; cases hq
  | s :: r, σ, A, h, q, hq => by
    obtain ⟨v, t, A1, A2, rfl, rfl, h1, h2⟩ := h
    rcases List.mem_append.mp hq with hq | hq
    · exact h1.there q hq
    · exact Slots.there h2 q hq
/-- one slot apart from the others -/
theorem Slots.at : ∀ {r : List Sl} {σ : L2.St} {A : List Addr} {i : Nat} {s : Sl}, Slots K H0 G H r σ A → r[i]? = some s →
    ∃ v B1 Ai B2, A = B1 ++ (Ai ++ B2) ∧ σ[i]? = some v ∧ SlotA K H0 G H s v Ai ∧
      ∀ (G1 H1 : Hp) (s' : Sl) (v' : Option V) (Ai' : List Addr), Ex G G1 → (∀ q ∈ B1 ++ B2, G1 q = none ∧ H1 q = H q) → SlotA K H0 G1 H1 s' v' Ai' → Slots K H0 G1 H1 (r.set i s') (σ.set i v') (B1 ++ (Ai' ++ B2))
  | [], _, _, _, _, _, e => by simp at e
  | s :: r, σ, A, 0, x, h, e => by
    obtain ⟨v, t, A1, A2, rfl, rfl, h1, h2⟩ := h
    simp at e; subst e
    exact ⟨v, [], A1, A2, rfl, rfl, h1, fun G1 H1 s' v' Ai' eg f hs => ⟨v', t, Ai', A2, rfl, rfl, hs, Slots.map eg h2 f⟩⟩
  | s :: r, σ, A, i + 1, x, h, e => by
    obtain ⟨v, t, A1, A2, rfl, rfl, h1, h2⟩ := h
    obtain ⟨u, B1, Ai, B2, rfl, e1, e2, e3⟩ := Slots.at (i := i) h2 (by simpa using e)
    refine ⟨u, A1 ++ B1, Ai, B2, by simp, by simpa using e1, e2, fun G1 H1 s' v' Ai' eg f hs => ?_⟩
    refine ⟨v, t.set i v', A1, B1 ++ (Ai' ++ B2), rfl, by simp, h1.map eg fun q hq => f q (by simp [hq]), e3 G1 H1 s' v' Ai' eg (fun q hq => f q ?_) hs⟩
    rcases List.mem_append.mp hq with hq | hq <;> simp [hq]
theorem Slots.set_out {r : List Sl} {σ : L2.St} {A : List Addr} {i : Nat} {s : Sl} {v : Option V} (h : Slots K H0 G H r σ A) (hi : r[i]? = none) : Slots K H0 G H (r.set i s) (σ.set i v) A := by
  have hr : r.length ≤ i := List.getElem?_eq_none_iff.mp hi
  rw [List.set_eq_of_length_le hr, List.set_eq_of_length_le (by rw [h.len]; exact hr)]
  exact h

/-- a def's state: G0, H0 at its entry -/
structure St (K : PySem.W.Frag) (G0 H0 : Hp) (ρ : List Sl) (G : Hp) (σ : L2.St) (H : Hp) : Prop where
  x : Ext G0 H0 G H
  sl : ∃ A, Slots K H0 G H ρ σ A ∧ A.Nodup
variable {ρ : List Sl} {σ : L2.St}
theorem St.ext (S : St K G0 H0 ρ G σ H) (x : Ext G H G' H') : St K G0 H0 ρ G' σ H' := by
  obtain ⟨A, h, nd⟩ := S.sl
  exact ⟨S.x.trans x, A, h.map x.g fun q hq => there_ext x (h.there q hq), nd⟩
theorem nodup_mid {B1 Ai B2 : List Addr} (h : (B1 ++ (Ai ++ B2)).Nodup) : Ai.Nodup := (List.nodup_append.mp (List.nodup_append.mp h).2.1).1
theorem nodup_put {B1 Ai B2 Ai' : List Addr} (h : (B1 ++ (Ai ++ B2)).Nodup) (n : Ai'.Nodup) (f : ∀ q ∈ Ai', q ∈ B1 ++ B2 → False) : (B1 ++ (Ai' ++ B2)).Nodup := by
  obtain ⟨n1, n2, n3⟩ := List.nodup_append.mp h
  obtain ⟨m1, m2, m3⟩ := List.nodup_append.mp n2
  refine List.nodup_append.mpr ⟨n1, List.nodup_append.mpr ⟨n, m2, fun a ha b hb z => ?_⟩, fun a ha b hb z => ?_⟩
  · exact f a ha (List.mem_append_right _ (z ▸ hb))
  · rcases List.mem_append.mp hb with hb | hb
    · exact f b hb (List.mem_append_left _ (z ▸ ha))
    · exact n3 a ha b (List.mem_append_right _ hb) z
theorem nodup_apart {B1 Ai B2 : List Addr} (h : (B1 ++ (Ai ++ B2)).Nodup) : ∀ q ∈ Ai, q ∈ B1 ++ B2 → False := fun q hq hb => by
  obtain ⟨n1, n2, n3⟩ := List.nodup_append.mp h
  obtain ⟨m1, m2, m3⟩ := List.nodup_append.mp n2
  rcases List.mem_append.mp hb with hb | hb
  · exact n3 q hb q (List.mem_append_left _ hq) rfl
  · exact m3 q hq q hb rfl
theorem St.get (S : St K G0 H0 ρ G σ H) {i : Nat} {s : Sl} (e : ρ[i]? = some s) : ∃ v, σ[i]? = some v ∧ SlotOk K H0 G H s v := by
  obtain ⟨A, h, nd⟩ := S.sl
  obtain ⟨v, B1, Ai, B2, rfl, e1, e2, _⟩ := h.at e
  exact ⟨v, e1, e2.ok (nodup_mid nd)⟩
theorem mem_mid {B1 Ai B2 : List Addr} {q : Addr} (h : q ∈ B1 ++ B2) : q ∈ B1 ++ (Ai ++ B2) := by
  rcases List.mem_append.mp h with h | h <;> simp [h]
theorem St.set_a (S : St K G0 H0 ρ G σ H) {s : Sl} {v : Option V} {A : List Addr} (h : SlotA K H0 G H s v A) (nd : A.Nodup) (fr : ∀ (B : List Addr) , Slots K H0 G H ρ σ B → ∀ q ∈ A, q ∈ B → False) (i : Nat) : St K G0 H0 (ρ.set i s) G (σ.set i v) H := by
  obtain ⟨B, hB, nB⟩ := S.sl
  cases e : ρ[i]? with
  | none => exact ⟨S.x, B, hB.set_out e, nB⟩
  | some s0 =>
    obtain ⟨v0, B1, Ai, B2, rfl, e1, e2, e3⟩ := hB.at e
    exact ⟨S.x, _, e3 G H s v A (.refl _) (fun q hq => ⟨(hB.there q (mem_mid hq)).2.1, rfl⟩) h, nodup_put nB nd fun q hq hb => fr _ hB q hq (mem_mid hb)⟩
theorem St.set_im (S : St K G0 H0 ρ G σ H) {d : D} {v : V} (h : Rep K G d v) (i : Nat) : St K G0 H0 (ρ.set i (.im d)) G (σ.set i (some v)) H :=
  S.set_a (s := .im d) (v := some v) (A := []) ⟨rfl, v, rfl, h⟩ .nil (fun _ _ q hq => by cases hq) i
theorem St.set_no (S : St K G0 H0 ρ G σ H) {v : Option V} (i : Nat) : St K G0 H0 (ρ.set i .no) G (σ.set i v) H :=
  S.set_a (s := .no) (v := v) (A := []) rfl .nil (fun _ _ q hq => by cases hq) i
/-- something new goes to a slot: what it owns was not there -/
theorem St.set_new (S : St K G0 H0 ρ G σ H) (x : Ext G H G' H') {s : Sl} {v : Option V} {A : List Addr} (h : SlotA K H0 G' H' s v A) (nd : A.Nodup) (fr : ∀ q ∈ A, H q = none) (i : Nat) : St K G0 H0 (ρ.set i s) G' (σ.set i v) H' := by
  obtain ⟨B, hB, nB⟩ := S.sl
  have hB' := hB.map x.g fun q hq => there_ext x (hB.there q hq)
  cases e : ρ[i]? with
  | none => exact ⟨S.x.trans x, B, hB'.set_out e, nB⟩
  | some s0 =>
    obtain ⟨v0, B1, Ai, B2, rfl, e1, e2, e3⟩ := hB'.at e
    exact ⟨S.x.trans x, _, e3 G' H' s v A (.refl _) (fun q hq => ⟨(hB'.there q (mem_mid hq)).2.1, rfl⟩) h, nodup_put nB nd fun q hq hb => (hB.there q (mem_mid hb)).2.2 (fr q hq)⟩
theorem St.set_owN (S : St K G0 H0 ρ G σ H) (x : Ext G H G' H') {d : D} {p : Addr} {o : HO} (hn : H p = none) (hg : G' p = none) (hp : H' p = some o) (ho : OwnO K G' d o) (i : Nat) : St K G0 H0 (ρ.set i (.ow d)) G' (σ.set i (some (.ref p))) H' :=
  S.set_new x (s := .ow d) (v := some (.ref p)) (A := [p]) ⟨p, o, rfl, rfl, S.x.h.back hn, hg, hp, ho⟩ (by simp) (fun q hq => by rcases List.mem_singleton.mp hq with rfl; exact hn) i
theorem set_same {i : Nat} {a : Option V} (e : σ[i]? = some a) : σ.set i a = σ := by
  apply List.ext_getElem?
  intro k
  by_cases hk : i = k
  · subst hk
    rw [List.getElem?_set_self (List.getElem?_eq_some_iff.mp e).1, e]
  · rw [List.getElem?_set_ne hk]
/-- the own object of slot i changes -/
theorem St.mut (S : St K G0 H0 ρ G σ H) {i : Nat} {d d' : D} {p : Addr} {o : HO} (e : ρ[i]? = some (.ow d)) (e2 : σ[i]? = some (some (.ref p))) (ho : OwnO K G d' o) : St K G0 H0 (ρ.set i (.ow d')) G σ (upd H p o) := by
  obtain ⟨A, h, nd⟩ := S.sl
  obtain ⟨v, B1, Ai, B2, rfl, e1, hs, e3⟩ := h.at e
  rw [e2] at e1; cases e1
  obtain ⟨p', o', rfl, e4, h0, hg, hh, _⟩ := hs
  cases e4
  have := e3 G (upd H p o) (.ow d') (some (.ref p)) [p] (.refl _) (fun q hq => ⟨(h.there q (mem_mid hq)).2.1, upd_ne (by rintro rfl; exact nodup_apart nd q (.head _) hq)⟩) ⟨p, o, rfl, rfl, h0, hg, upd_same, ho⟩
  rw [set_same e2] at this
  exact ⟨S.x.mut h0 hg, _, this, nd⟩
/-- the own object of slot i is let go: it stays as it is from now on -/
theorem St.frz (S : St K G0 H0 ρ G σ H) {i : Nat} {d : D} (e : ρ[i]? = some (.ow d)) : ∃ G', Ex G G' ∧ St K G0 H0 (ρ.set i (.im d)) G' σ H := by
  obtain ⟨A, h, nd⟩ := S.sl
  obtain ⟨v, B1, Ai, B2, rfl, e1, hs, e3⟩ := h.at e
  obtain ⟨p, o, rfl, rfl, h0, hg, hh, ho⟩ := hs
  refine ⟨upd G p o, Ex.new hg, S.x.show_ h0 hg hh, B1 ++ ([] ++ B2), ?_, nodup_put nd .nil fun q hq => by cases hq⟩
  have := e3 (upd G p o) H (.im d) (some (.ref p)) [] (Ex.new hg) (fun q hq => ⟨by rw [upd_ne (by rintro rfl; exact nodup_apart nd q (.head _) hq)]; exact (h.there q (mem_mid hq)).2.1, rfl⟩) ⟨rfl, .ref p, rfl, (ho.mono (Ex.new hg)).rep upd_same⟩
  rw [set_same e1] at this
  exact this
/-- all that slot i owns is let go -/
theorem St.frzO (S : St K G0 H0 ρ G σ H) {i : Nat} {x : Option Addr} {o : O} (e : ρ[i]? = some (.dp x o)) : ∃ G', Ex G G' ∧ St K G0 H0 (ρ.set i (.im o.d)) G' σ H := by
  obtain ⟨A, h, nd⟩ := S.sl
  obtain ⟨v, B1, Ai, B2, rfl, e1, hs, e3⟩ := h.at e
  obtain ⟨u, rfl, _, hr⟩ := hs
  have th := RepO.there _ _ _ hr
  have hEx : Ex G (fun a => if a ∈ Ai then H a else G a) := fun a w ha => by
    by_cases z : a ∈ Ai
    · rw [(th a z).2.1] at ha; cases ha
    · simp only [z, if_false]; exact ha
  refine ⟨fun a => if a ∈ Ai then H a else G a, hEx, ⟨S.x.g.trans hEx, S.x.h, fun a w ha => ?_, fun q hq => ?_⟩, B1 ++ ([] ++ B2), ?_, nodup_put nd .nil fun q hq => by cases hq⟩
  · by_cases z : a ∈ Ai
    · simp only [z, if_true] at ha; exact ha
    · simp only [z, if_false] at ha; exact S.x.s _ _ ha
  · have z : q ∉ Ai := fun z => hq (th q z).1
    simp only [z, if_false]; exact S.x.n q hq
  · have := e3 (fun a => if a ∈ Ai then H a else G a) H (.im o.d) (some u) [] hEx (fun q hq => ⟨by rw [if_neg fun z => nodup_apart nd q z hq]; exact (h.there q (mem_mid hq)).2.1, rfl⟩) ⟨rfl, u, rfl, RepO.rep hEx _ _ _ hr fun q hq => by simp [hq]⟩
    rw [set_same e1] at this
    exact this

/-- read: data that stays, or an own object's top -/
def RepB (K : PySem.W.Frag) (G H : Hp) (d : D) (v : V) : Prop := Rep K G d v ∨ ∃ p o, v = .ref p ∧ G p = none ∧ H p = some o ∧ OwnO K G d o
theorem RepB.ext {d : D} {v : V} (x : Ext G H G' H') (h : RepB K G H d v) : RepB K G' H' d v := by
  rcases h with h | ⟨p, o, e, hg, hh, ho⟩
  · exact .inl (Rep.mono x.g _ _ h)
  · exact .inr ⟨p, o, e, by rw [x.n p (by rw [hh]; simp)]; exact hg, x.h _ _ hh, ho.mono x.g⟩
/-- in the whole heap -/
theorem RepB.rep {d : D} {v : V} (e : Ex G H) (h : RepB K G H d v) : Rep K H d v := by
  rcases h with h | ⟨p, o, rfl, hg, hh, ho⟩
  · exact Rep.mono e _ _ h
  · exact (ho.mono e).rep hh
theorem RepB.int {i : Int} {v : V} (h : RepB K G H (.int i) v) : v = .int i := by
  rcases h with h | ⟨p, o, _, _, _, ho⟩
  · exact h
  · cases o <;> exact ho.elim
theorem RepB.str {i : Str} {v : V} (h : RepB K G H (.str i) v) : v = .str i := by
  rcases h with h | ⟨p, o, _, _, _, ho⟩
  · exact h
  · cases o <;> exact ho.elim
theorem RepB.bl {i : Bool} {v : V} (h : RepB K G H (.bl i) v) : v = .bl i := by
  rcases h with h | ⟨p, o, _, _, _, ho⟩
  · exact h
  · cases o <;> exact ho.elim
theorem RepB.non {v : V} (h : RepB K G H .non v) : v = .non := by
  rcases h with h | ⟨p, o, _, _, _, ho⟩
  · exact h
  · cases o <;> exact ho.elim
theorem RepB.lst {l : List D} {v : V} (e : Ex G H) (h : RepB K G H (.lst l) v) : ∃ a vs, v = .ref a ∧ H a = some (.lst vs) ∧ RepL K G l vs := by
  rcases h with ⟨a, vs, e1, h1, h2⟩ | ⟨p, o, e1, _, hh, ho⟩
  · exact ⟨a, vs, e1, e _ _ h1, h2⟩
  · cases o with
    | lst vs => exact ⟨p, vs, e1, hh, ho⟩
    | _ => exact ho.elim
theorem RepB.tup {l : List D} {v : V} (e : Ex G H) (h : RepB K G H (.tup l) v) : ∃ a vs, v = .ref a ∧ H a = some (.tup vs) ∧ RepL K G l vs := by
  rcases h with ⟨a, vs, e1, h1, h2⟩ | ⟨p, o, e1, _, hh, ho⟩
  · exact ⟨a, vs, e1, e _ _ h1, h2⟩
  · cases o <;> exact ho.elim
theorem RepB.dt {ks : List (List Key)} {l : List D} {v : V} (e : Ex G H) (h : RepB K G H (.dt ks l) v) : ∃ a vs, v = .ref a ∧ H a = some (.dT (ks.zip vs)) ∧ vs.length = ks.length ∧ RepL K G l vs := by
  rcases h with ⟨a, vs, e1, h1, h2, h3⟩ | ⟨p, o, e1, _, hh, ho⟩
  · exact ⟨a, vs, e1, e _ _ h1, h2, h3⟩
  · cases o with
    | dT kvs => obtain ⟨vs, rfl, h2, h3⟩ := ho; exact ⟨p, vs, e1, hh, h2, h3⟩
    | _ => exact ho.elim
theorem RepB.dk {ks : List Key} {l : List D} {v : V} (e : Ex G H) (h : RepB K G H (.dk ks l) v) : ∃ a vs, v = .ref a ∧ H a = some (.dK (ks.zip vs)) ∧ vs.length = ks.length ∧ RepL K G l vs := by
  rcases h with ⟨a, vs, e1, h1, h2, h3⟩ | ⟨p, o, e1, _, hh, ho⟩
  · exact ⟨a, vs, e1, e _ _ h1, h2, h3⟩
  · cases o with
    | dK kvs => obtain ⟨vs, rfl, h2, h3⟩ := ho; exact ⟨p, vs, e1, hh, h2, h3⟩
    | _ => exact ho.elim
theorem RepB.ins {C : Addr} {ns : List Str} {l : List D} {v : V} (e : Ex G H) (h : RepB K G H (.ins C ns l) v) : ∃ a dx vs, v = .ref a ∧ H a = some (.ins C dx (ns.zip vs)) ∧ vs.length = ns.length ∧ RepL K G l vs := by
  rcases h with ⟨a, dx, vs, e1, h1, h2, h3⟩ | ⟨p, o, e1, _, hh, ho⟩
  · exact ⟨a, dx, vs, e1, e _ _ h1, h2, h3⟩
  · cases o with
    | ins C' dx fs => obtain ⟨rfl, vs, rfl, h2, h3⟩ := ho; exact ⟨p, dx, vs, e1, hh, h2, h3⟩
    | _ => exact ho.elim
theorem RepB.scr {l : List Int} {v : V} (e : Ex G H) (h : RepB K G H (.scr l) v) : ∃ a, v = .ref a ∧ SqL K H a (l.map V.int) := by
  rcases h with ⟨a, e1, h1⟩ | ⟨p, o, e1, _, hh, ho⟩
  · exact ⟨a, e1, e.sqL h1⟩
  · cases o <;> exact ho.elim
/-- data that stands in no object -/
def flat : D → Bool
  | .non => true | .bl _ => true | .int _ => true | .str _ => true | _ => false
theorem Rep.flat {d : D} {v : V} (f : flat d = true) (h : Rep K H d v) : Rep K G d v := by
  cases d <;> first | exact h | cases f

/-! ### judgements -/
def EvD (K : PySem.W.Frag) (ρ : List Sl) (te : TE) (d : D) : Prop := ∀ (G0 H0 G : Hp) (σ : L2.St) (H : Hp), St K G0 H0 ρ G σ H → ∀ Q : VK, (∀ v G' H', Ext G H G' H' → Rep K G' d v → Q v H') → te σ H Q
def EvB (K : PySem.W.Frag) (ρ : List Sl) (te : TE) (d : D) : Prop := ∀ (G0 H0 G : Hp) (σ : L2.St) (H : Hp), St K G0 H0 ρ G σ H → ∀ Q : VK, (∀ v G' H', Ext G H G' H' → RepB K G' H' d v → Q v H') → te σ H Q
/-- a fresh object -/
def EvF (K : PySem.W.Frag) (ρ : List Sl) (te : TE) (d : D) : Prop := ∀ (G0 H0 G : Hp) (σ : L2.St) (H : Hp), St K G0 H0 ρ G σ H → ∀ Q : VK, (∀ p o G' H', Ext G H G' H' → H p = none → G' p = none → H' p = some o → OwnO K G' d o → Q (.ref p) H') → te σ H Q
def EvT (K : PySem.W.Frag) (ρ : List Sl) (tt : TT) (b : Bool) : Prop := ∀ (G0 H0 G : Hp) (σ : L2.St) (H : Hp), St K G0 H0 ρ G σ H → ∀ Q : Bool → Hp → Prop, (∀ G' H', Ext G H G' H' → Q b H') → tt σ H Q
def EvA (K : PySem.W.Frag) (ρ : List Sl) (ta : TA) (ds : List D) : Prop := ∀ (G0 H0 G : Hp) (σ : L2.St) (H : Hp), St K G0 H0 ρ G σ H → ∀ Q : List V → Hp → Prop, (∀ vs G' H', Ext G H G' H' → RepL K G' ds vs → Q vs H') → ta σ H Q
def RepBL (K : PySem.W.Frag) (G H : Hp) : List D → List V → Prop
  | [], vs => vs = []
  | d :: ds, vs => ∃ v r, vs = v :: r ∧ RepB K G H d v ∧ RepBL K G H ds r
theorem RepBL.rep (e : Ex G H) : ∀ {ds : List D} {vs : List V}, RepBL K G H ds vs → RepL K H ds vs
  | [], _, h => h
  | d :: ds, vs, h => by
    obtain ⟨v, r, e1, h1, h2⟩ := h
    exact ⟨v, r, e1, h1.rep e, RepBL.rep e h2⟩
def EvAB (K : PySem.W.Frag) (ρ : List Sl) (ta : TA) (ds : List D) : Prop := ∀ (G0 H0 G : Hp) (σ : L2.St) (H : Hp), St K G0 H0 ρ G σ H → ∀ Q : List V → Hp → Prop, (∀ vs G' H', Ext G H G' H' → RepBL K G' H' ds vs → Q vs H') → ta σ H Q
variable {te ta tb : TE} {d d1 d2 : D}
theorem EvD.b (h : EvD K ρ te d) : EvB K ρ te d := fun G0 H0 G σ H S Q q => h G0 H0 G σ H S Q fun v G' H' x r => q v G' H' x (.inl r)
theorem EvF.im (h : EvF K ρ te d) : EvD K ρ te d := fun G0 H0 G σ H S Q q => h G0 H0 G σ H S Q fun p o G' H' x hp hg hh ho =>
  q (.ref p) (upd G' p o) H' (x.show_ hp hg hh) ((ho.mono (Ex.new hg)).rep upd_same)
theorem ev_var {i : Nat} (e : ρ[i]? = some (.im d)) : EvD K ρ (tVar i) d := fun G0 H0 G σ H S Q q => by
  obtain ⟨v, e1, u, rfl, r⟩ := S.get e
  exact ⟨u, e1, q u G H (.refl S.x.s) r⟩
theorem evb_var {i : Nat} (e : ρ[i]? = some (.ow d)) : EvB K ρ (tVar i) d := fun G0 H0 G σ H S Q q => by
  obtain ⟨v, e1, p, o, rfl, h0, hg, hh, ho⟩ := S.get e
  exact ⟨.ref p, e1, q _ G H (.refl S.x.s) (.inr ⟨p, o, rfl, hg, hh, ho⟩)⟩
theorem ev_int {i : Int} : EvD K ρ (tC (.int i)) (.int i) := fun G0 H0 G σ H S Q q => q _ G H (.refl S.x.s) rfl
theorem ev_str {s : Str} : EvD K ρ (tC (.str s)) (.str s) := fun G0 H0 G σ H S Q q => q _ G H (.refl S.x.s) rfl
theorem ev_bl {b : Bool} : EvD K ρ (tC (.bl b)) (.bl b) := fun G0 H0 G σ H S Q q => q _ G H (.refl S.x.s) rfl
theorem ev_non : EvD K ρ (tC .non) .non := fun G0 H0 G σ H S Q q => q _ G H (.refl S.x.s) rfl
/-- an operation by values -/
def OpD (K : PySem.W.Frag) (r : R2) (d1 d2 d : D) : Prop := ∀ (G H : Hp) (v1 v2 : V), Ex G H → RepB K G H d1 v1 → RepB K G H d2 v2 → ∀ Q : VK, (∀ v G' H', Ext G H G' H' → Rep K G' d v → Q v H') → r v1 v2 H Q
def OpF (K : PySem.W.Frag) (r : R2) (d1 d2 d : D) : Prop := ∀ (G H : Hp) (v1 v2 : V), Ex G H → RepB K G H d1 v1 → RepB K G H d2 v2 → ∀ Q : VK, (∀ p o G' H', Ext G H G' H' → H p = none → G' p = none → H' p = some o → OwnO K G' d o → Q (.ref p) H') → r v1 v2 H Q
theorem ev_op {r : R2} (ha : EvB K ρ ta d1) (hb : EvB K ρ tb d2) (ho : OpD K r d1 d2 d) : EvD K ρ (tOp r ta tb) d := fun G0 H0 G σ H S Q q =>
  ha G0 H0 G σ H S _ fun v G1 H1 x1 r1 => hb G0 H0 G1 σ H1 (S.ext x1) _ fun u G2 H2 x2 r2 =>
    ho G2 H2 v u x2.s (r1.ext x2) r2 Q fun w G3 H3 x3 r3 => q w G3 H3 ((x1.trans x2).trans x3) r3
theorem ev_opF {r : R2} (ha : EvB K ρ ta d1) (hb : EvB K ρ tb d2) (ho : OpF K r d1 d2 d) : EvF K ρ (tOp r ta tb) d := fun G0 H0 G σ H S Q q =>
  ha G0 H0 G σ H S _ fun v G1 H1 x1 r1 => hb G0 H0 G1 σ H1 (S.ext x1) _ fun u G2 H2 x2 r2 =>
    ho G2 H2 v u x2.s (r1.ext x2) r2 Q fun p o G3 H3 x3 hp hg hh ho => q p o G3 H3 ((x1.trans x2).trans x3) ((x1.trans x2).h.back hp) hg hh ho
theorem OpD.or1 {r r' : R2} (h : OpD K r d1 d2 d) : OpD K (fun x y H Q => r x y H Q ∨ r' x y H Q) d1 d2 d := fun G H v1 v2 e h1 h2 Q q => .inl (h G H v1 v2 e h1 h2 Q q)
theorem OpD.or2 {r r' : R2} (h : OpD K r' d1 d2 d) : OpD K (fun x y H Q => r x y H Q ∨ r' x y H Q) d1 d2 d := fun G H v1 v2 e h1 h2 Q q => .inr (h G H v1 v2 e h1 h2 Q q)
theorem OpF.or1 {r r' : R2} (h : OpF K r d1 d2 d) : OpF K (fun x y H Q => r x y H Q ∨ r' x y H Q) d1 d2 d := fun G H v1 v2 e h1 h2 Q q => .inl (h G H v1 v2 e h1 h2 Q q)
theorem OpF.or2 {r r' : R2} (h : OpF K r' d1 d2 d) : OpF K (fun x y H Q => r x y H Q ∨ r' x y H Q) d1 d2 d := fun G H v1 v2 e h1 h2 Q q => .inr (h G H v1 v2 e h1 h2 Q q)
theorem od_I0 {g : Int → Int → Int} {i j : Int} : OpD K (rI0 fun i j => .int (g i j)) (.int i) (.int j) (.int (g i j)) := fun G H v1 v2 e h1 h2 Q q => by
  cases h1.int; cases h2.int
  exact ⟨i, j, rfl, rfl, q _ G H (.refl e) rfl⟩
theorem od_B0 {g : Int → Int → Bool} {i j : Int} : OpD K (rI0 fun i j => .bl (g i j)) (.int i) (.int j) (.bl (g i j)) := fun G H v1 v2 e h1 h2 Q q => by
  cases h1.int; cases h2.int
  exact ⟨i, j, rfl, rfl, q _ G H (.refl e) rfl⟩
theorem od_I {C : Int → Int → Prop} {g : Int → Int → Int} {i j : Int} (hc : C i j) : OpD K (rI C fun i j => .int (g i j)) (.int i) (.int j) (.int (g i j)) := fun G H v1 v2 e h1 h2 Q q => by
  cases h1.int; cases h2.int
  exact ⟨i, j, rfl, rfl, hc, q _ G H (.refl e) rfl⟩
end
end PL

set_option Elab.async false
set_option linter.all false
set_option maxRecDepth 100000
set_option maxHeartbeats 1000000
/-! DL2: statements on data. -/
namespace PL
open PySem PySem.Spec PyProof.Rows L2

/-- a def's ends, on data -/
structure De where
  nx : List Sl → Prop
  rt : Sl → Prop
  bk : List Sl → Prop := fun _ => False
  ct : List Sl → Prop := fun _ => False
  ex : Addr → List Str → List D → Prop := fun _ _ _ => False
structure Mt (K : PySem.W.Frag) (G0 H0 G : Hp) (E : XK) (Δ : De) (N : Ends) : Prop where
  nx : ∀ ρ G' σ H, Ex G G' → St K G0 H0 ρ G' σ H → Δ.nx ρ → N.nx σ H
  rt : ∀ s v G' H, Ex G G' → Ext G0 H0 G' H → SlotOk K H0 G' H s (some v) → Δ.rt s → N.rt v H
  bk : ∀ ρ G' σ H, Ex G G' → St K G0 H0 ρ G' σ H → Δ.bk ρ → N.bk σ H
  ct : ∀ ρ G' σ H, Ex G G' → St K G0 H0 ρ G' σ H → Δ.ct ρ → N.ct σ H
  ex : ∀ C ns l dd vs G' H, Ex G G' → Ext G0 H0 G' H → H0 dd = none → H dd = some (.xd (ns.zip vs)) → vs.length = ns.length → RepL K H l vs → Δ.ex C ns l → E (.ref C) (some dd) H
def SvD (K : PySem.W.Frag) (E : XK) (ρ : List Sl) (ts : TS) (Δ : De) : Prop := ∀ (G0 H0 G : Hp) (σ : L2.St) (H : Hp) (N : Ends), St K G0 H0 ρ G σ H → Mt K G0 H0 G E Δ N → ts N σ H

section
variable {K : PySem.W.Frag} {E : XK} {G G1 H G0 H0 : Hp} {ρ : List Sl} {Δ : De} {N : Ends} {t u : TS} {te : TE} {d : D}
theorem Mt.up (M : Mt K G0 H0 G E Δ N) (e : Ex G G1) : Mt K G0 H0 G1 E Δ N :=
  ⟨fun ρ G' σ H x => M.nx ρ G' σ H (e.trans x), fun s v G' H x => M.rt s v G' H (e.trans x), fun ρ G' σ H x => M.bk ρ G' σ H (e.trans x), fun ρ G' σ H x => M.ct ρ G' σ H (e.trans x),
    fun C ns l dd vs G' H x => M.ex C ns l dd vs G' H (e.trans x)⟩
theorem SvD.imp {Δ' : De} (h : SvD K E ρ t Δ) (h1 : ∀ ρ, Δ.nx ρ → Δ'.nx ρ) (h2 : ∀ s, Δ.rt s → Δ'.rt s) (h3 : ∀ ρ, Δ.bk ρ → Δ'.bk ρ) (h4 : ∀ ρ, Δ.ct ρ → Δ'.ct ρ) (h5 : ∀ C ns l, Δ.ex C ns l → Δ'.ex C ns l) : SvD K E ρ t Δ' :=
  fun G0 H0 G σ H N S M => h G0 H0 G σ H N S ⟨fun ρ G' σ H x S q => M.nx ρ G' σ H x S (h1 ρ q), fun s v G' H x y z q => M.rt s v G' H x y z (h2 s q), fun ρ G' σ H x S q => M.bk ρ G' σ H x S (h3 ρ q),
    fun ρ G' σ H x S q => M.ct ρ G' σ H x S (h4 ρ q), fun C ns l dd vs G' H x y z a b c q => M.ex C ns l dd vs G' H x y z a b c (h5 C ns l q)⟩
theorem sv_seq (h : SvD K E ρ t { Δ with nx := fun ρ' => SvD K E ρ' u Δ }) : SvD K E ρ (tSeq t u) Δ := fun G0 H0 G σ H N S M =>
  h G0 H0 G σ H { N with nx := u N } S ⟨fun ρ' G' σ' H' x S' q => q G0 H0 G' σ' H' N S' (M.up x), M.rt, M.bk, M.ct, M.ex⟩
theorem sv_next (q : Δ.nx ρ) : SvD K E ρ tNext Δ := fun G0 H0 G σ H N S M => M.nx ρ G σ H (.refl _) S q
theorem sv_brk (q : Δ.bk ρ) : SvD K E ρ tBreak Δ := fun G0 H0 G σ H N S M => M.bk ρ G σ H (.refl _) S q
theorem sv_cont (q : Δ.ct ρ) : SvD K E ρ tCont Δ := fun G0 H0 G σ H N S M => M.ct ρ G σ H (.refl _) S q
/-- the own object at a slot stays from here on -/
theorem sv_frz (i : Nat) {d : D} (e : ρ[i]? = some (.ow d)) (h : SvD K E (ρ.set i (.im d)) t Δ) : SvD K E ρ t Δ := fun G0 H0 G σ H N S M => by
  obtain ⟨G', x, S'⟩ := S.frz e
  exact h G0 H0 G' σ H N S' (M.up x)
/-- an expression that may change own objects -/
def EvS (K : PySem.W.Frag) (ρ : List Sl) (te : TE) (ρ' : List Sl) (d : D) : Prop := ∀ (G0 H0 G : Hp) (σ : L2.St) (H : Hp), St K G0 H0 ρ G σ H → ∀ Q : VK, (∀ v G' H', Ex G G' → St K G0 H0 ρ' G' σ H' → Rep K G' d v → Q v H') → te σ H Q
theorem EvD.s (h : EvD K ρ te d) : EvS K ρ te ρ d := fun G0 H0 G σ H S Q q => h G0 H0 G σ H S Q fun v G' H' x r => q v G' H' x.g (S.ext x) r
/-- a target -/
def TgD (K : PySem.W.Frag) (ρ : List Sl) (g : TG) (d : D) (ρ' : List Sl) : Prop := ∀ (G0 H0 G : Hp) (σ : L2.St) (H : Hp) (v : V), St K G0 H0 ρ G σ H → Rep K G d v → ∀ Q : L2.St → Hp → Prop, (∀ σ', St K G0 H0 ρ' G σ' H → Q σ' H) → g v σ H Q
def TgsD (K : PySem.W.Frag) (ρ : List Sl) (g : TGs) (ds : List D) (ρ' : List Sl) : Prop := ∀ (G0 H0 G : Hp) (σ : L2.St) (H : Hp) (vs : List V), St K G0 H0 ρ G σ H → RepL K G ds vs → ∀ Q : L2.St → Hp → Prop, (∀ σ', St K G0 H0 ρ' G σ' H → Q σ' H) → g vs σ H Q
theorem tg_name {i : Nat} : TgD K ρ (gName i) d (ρ.set i (.im d)) := fun G0 H0 G σ H v S r Q q => q _ (S.set_im r i)
theorem tgs_nil : TgsD K ρ gNil [] ρ := fun G0 H0 G σ H vs S r Q q => ⟨r, q _ S⟩
theorem tgs_cons {g : TG} {gs : TGs} {ρ1 ρ2 : List Sl} {ds : List D} (h : TgD K ρ g d ρ1) (h2 : TgsD K ρ1 gs ds ρ2) : TgsD K ρ (gCons g gs) (d :: ds) ρ2 := fun G0 H0 G σ H vs S r Q q => by
  obtain ⟨v, rs, e, r1, r2⟩ := r
  exact ⟨v, rs, e, h G0 H0 G σ H v S r1 _ fun σ' S' => h2 G0 H0 G σ' H rs S' r2 Q q⟩
theorem tg_tup {gs : TGs} {n : Nat} {ρ' : List Sl} {ds : List D} (h : TgsD K ρ gs ds ρ') (hn : ds.length = n := by rfl) : TgD K ρ (gTup K n gs) (.tup ds) ρ' := fun G0 H0 G σ H v S r Q q => by
  obtain ⟨a, vs, rfl, h1, h2⟩ := r
  exact ⟨a, vs, rfl, SqT.of (S.x.s _ _ h1), by rw [h2.len]; exact hn, h G0 H0 G σ H vs S h2 Q q⟩
theorem tg_lst {gs : TGs} {n : Nat} {ρ' : List Sl} {ds : List D} (h : TgsD K ρ gs ds ρ') (hn : ds.length = n := by rfl) : TgD K ρ (gLst K n gs) (.lst ds) ρ' := fun G0 H0 G σ H v S r Q q => by
  obtain ⟨a, vs, rfl, h1, h2⟩ := r
  exact ⟨a, vs, rfl, SqL.of (S.x.s _ _ h1), by rw [h2.len]; exact hn, h G0 H0 G σ H vs S h2 Q q⟩

/-! ### small statements -/
theorem sv_asg {g : TG} {ρ1 ρ2 : List Sl} (h : EvS K ρ te ρ1 d) (hg : TgD K ρ1 g d ρ2) (q : Δ.nx ρ2) : SvD K E ρ (tAsg te g) Δ := fun G0 H0 G σ H N S M =>
  h G0 H0 G σ H S _ fun v G1 H1 x S1 r => hg G0 H0 G1 σ H1 v S1 r _ fun σ' S2 => M.nx ρ2 G1 σ' H1 x S2 q
theorem sv_set {i : Nat} (h : EvD K ρ te d) (q : Δ.nx (ρ.set i (.im d))) : SvD K E ρ (tAsg te (gName i)) Δ := sv_asg h.s tg_name q
theorem sv_setF {i : Nat} (h : EvF K ρ te d) (q : Δ.nx (ρ.set i (.ow d))) : SvD K E ρ (tAsg te (gName i)) Δ := fun G0 H0 G σ H N S M =>
  h G0 H0 G σ H S _ fun p o G1 H1 x hp hg hh ho => by
    exact M.nx _ G1 _ H1 x.g (S.set_owN x hp hg hh ho i) q
theorem sv_drop {ρ1 : List Sl} (h : EvS K ρ te ρ1 d) (q : Δ.nx ρ1) : SvD K E ρ (tDrop te) Δ := fun G0 H0 G σ H N S M =>
  h G0 H0 G σ H S _ fun v G1 H1 x S1 r => M.nx ρ1 G1 σ H1 x S1 q
theorem sv_ret (h : EvD K ρ te d) (q : Δ.rt (.im d)) : SvD K E ρ (tRet te) Δ := fun G0 H0 G σ H N S M =>
  h G0 H0 G σ H S _ fun v G1 H1 x r => M.rt (.im d) v G1 H1 x.g (S.x.trans x) ⟨v, rfl, r⟩ q
theorem sv_retF (h : EvF K ρ te d) (q : Δ.rt (.ow d)) : SvD K E ρ (tRet te) Δ := fun G0 H0 G σ H N S M =>
  h G0 H0 G σ H S _ fun p o G1 H1 x hp hg hh ho => M.rt (.ow d) (.ref p) G1 H1 x.g (S.x.trans x) ⟨p, o, rfl, S.x.h.back hp, hg, hh, ho⟩ q
theorem sv_ret_own {i : Nat} (e : ρ[i]? = some (.ow d)) (q : Δ.rt (.ow d)) : SvD K E ρ (tRet (tVar i)) Δ := fun G0 H0 G σ H N S M => by
  obtain ⟨v, e1, p, o, rfl, h0, hg, hh, ho⟩ := S.get e
  exact ⟨.ref p, e1, M.rt (.ow d) (.ref p) G H (.refl _) S.x ⟨p, o, rfl, h0, hg, hh, ho⟩ q⟩
theorem sv_retN (q : Δ.rt (.im .non)) : SvD K E ρ tRetN Δ := fun G0 H0 G σ H N S M => M.rt (.im .non) .non G H (.refl _) S.x ⟨.non, rfl, rfl⟩ q
theorem sv_if {c : TT} {b : Bool} (h : EvT K ρ c b) (h1 : b = true → SvD K E ρ t Δ) (h2 : b = false → SvD K E ρ u Δ) : SvD K E ρ (tIfS c t u) Δ := fun G0 H0 G σ H N S M =>
  h G0 H0 G σ H S _ fun G1 H1 x => by
    cases b with
    | true => exact iteT (h1 rfl G0 H0 G1 σ H1 N (S.ext x) (M.up x.g))
    | false => exact iteF (h2 rfl G0 H0 G1 σ H1 N (S.ext x) (M.up x.g))
theorem sv_aug {i : Nat} {ti : TIp} {d0 d2 : D} (e : ρ[i]? = some (.im d0)) (h : EvD K ρ te d) (ho : OpD K ti d0 d d2) (q : Δ.nx (ρ.set i (.im d2))) : SvD K E ρ (tAug i te ti) Δ := fun G0 H0 G σ H N S M => by
  obtain ⟨v, e1, w, rfl, rw'⟩ := S.get e
  exact ⟨w, e1, h G0 H0 G σ H S _ fun y G1 H1 x r => ho G1 H1 w y x.s (.inl (Rep.mono x.g _ _ rw')) (.inl r) _ fun z G2 H2 x2 r2 =>
    M.nx _ G2 _ H2 (x.g.trans x2.g) (((S.ext x).ext x2).set_im r2 i) q⟩

/-! ### tests -/
variable {tt tu : TT} {a b : Bool}
theorem et_test (h : EvD K ρ te (.bl b)) : EvT K ρ (tTest te) b := fun G0 H0 G σ H S Q q => h G0 H0 G σ H S _ fun v G' H' x r => ⟨b, r, q G' H' x⟩
theorem et_B (h : EvD K ρ te (.bl b)) : EvT K ρ (tB te) b := fun G0 H0 G σ H S Q q => h G0 H0 G σ H S _ fun v G' H' x r => ⟨b, r, q G' H' x⟩
theorem et_and (h1 : EvT K ρ tt a) (h2 : a = true → EvT K ρ tu b) : EvT K ρ (tAnd tt tu) (a && b) := fun G0 H0 G σ H S Q q => h1 G0 H0 G σ H S _ fun G1 H1 x => by
  cases a with
  | true => exact iteT (h2 rfl G0 H0 G1 σ H1 (S.ext x) Q fun G2 H2 x2 => q G2 H2 (x.trans x2))
  | false => exact iteF (q G1 H1 x)
theorem et_or (h1 : EvT K ρ tt a) (h2 : a = false → EvT K ρ tu b) : EvT K ρ (tOr tt tu) (a || b) := fun G0 H0 G σ H S Q q => h1 G0 H0 G σ H S _ fun G1 H1 x => by
  cases a with
  | true => exact iteT (q G1 H1 x)
  | false => exact iteF (h2 rfl G0 H0 G1 σ H1 (S.ext x) Q fun G2 H2 x2 => q G2 H2 (x.trans x2))
theorem et_not (h : EvT K ρ tt b) : EvT K ρ (tNot tt) (!b) := fun G0 H0 G σ H S Q q => h G0 H0 G σ H S _ q
theorem ev_not (h : EvD K ρ te (.bl b)) : EvD K ρ (tNotV te) (.bl (!b)) := fun G0 H0 G σ H S Q q => h G0 H0 G σ H S _ fun v G' H' x r => ⟨b, r, q _ G' H' x rfl⟩
theorem ev_and {ta tb : TE} (h1 : EvD K ρ ta (.bl a)) (h2 : a = true → EvD K ρ tb (.bl b)) : EvD K ρ (tAndV ta tb) (.bl (a && b)) := fun G0 H0 G σ H S Q q => h1 G0 H0 G σ H S _ fun v G1 H1 x r => ⟨a, r, by
  cases a with
  | true => exact iteT (h2 rfl G0 H0 G1 σ H1 (S.ext x) Q fun v G2 H2 x2 r2 => q v G2 H2 (x.trans x2) r2)
  | false => exact iteF (q _ G1 H1 x rfl)⟩
theorem ev_or {ta tb : TE} (h1 : EvD K ρ ta (.bl a)) (h2 : a = false → EvD K ρ tb (.bl b)) : EvD K ρ (tOrV ta tb) (.bl (a || b)) := fun G0 H0 G σ H S Q q => h1 G0 H0 G σ H S _ fun v G1 H1 x r => ⟨a, r, by
  cases a with
  | true => exact iteT (q _ G1 H1 x rfl)
  | false => exact iteF (h2 rfl G0 H0 G1 σ H1 (S.ext x) Q fun v G2 H2 x2 r2 => q v G2 H2 (x.trans x2) r2)⟩
theorem ev_if {ta tb : TE} {c : Bool} (h : EvT K ρ tt c) (h1 : c = true → EvD K ρ ta d) (h2 : c = false → EvD K ρ tb d) : EvD K ρ (tIf tt ta tb) d := fun G0 H0 G σ H S Q q => h G0 H0 G σ H S _ fun G1 H1 x => by
  cases c with
  | true => exact iteT (h1 rfl G0 H0 G1 σ H1 (S.ext x) Q fun v G2 H2 x2 r2 => q v G2 H2 (x.trans x2) r2)
  | false => exact iteF (h2 rfl G0 H0 G1 σ H1 (S.ext x) Q fun v G2 H2 x2 r2 => q v G2 H2 (x.trans x2) r2)
/-- a value's truth -/
def TrD : D → Bool → Prop
  | .lst l, b => b = !l.isEmpty
  | .tup l, b => b = !l.isEmpty
  | .int i, b => b = (i != 0)
  | .non, b => b = false
  | _, _ => False
theorem RepL.emp : ∀ {l : List D} {vs : List V}, RepL K G l vs → vs.isEmpty = l.isEmpty
  | [], _, h => by cases (show _ = [] from h); rfl
  | _ :: _, _, h => by obtain ⟨v, r, rfl, _⟩ := h; rfl
theorem et_tru (h : EvB K ρ te d) (hb : TrD d b) : EvT K ρ (tTru K te) b := fun G0 H0 G σ H S Q q => h G0 H0 G σ H S _ fun v G' H' x r => by
  refine ⟨b, ?_, q G' H' x⟩
  cases d with
  | lst l =>
    obtain ⟨p, vs, rfl, h1, h2⟩ := r.lst x.s
    exact .inl ⟨vs, SqL.of h1, by rw [hb, h2.emp]⟩
  | tup l =>
    obtain ⟨p, vs, rfl, h1, h2⟩ := r.tup x.s
    exact .inr (.inl ⟨vs, SqT.of h1, by rw [hb, h2.emp]⟩)
  | int i => cases r.int; exact hb
  | non => cases r.non; exact hb
  | _ => exact hb.elim

/-! ### arguments, displays -/
theorem ea_nil : EvA K ρ tNil [] := fun G0 H0 G σ H S Q q => q [] G H (.refl S.x.s) rfl
theorem ea_cons {ta : TA} {ds : List D} (h : EvD K ρ te d) (h2 : EvA K ρ ta ds) : EvA K ρ (tCons te ta) (d :: ds) := fun G0 H0 G σ H S Q q =>
  h G0 H0 G σ H S _ fun v G1 H1 x r => h2 G0 H0 G1 σ H1 (S.ext x) _ fun vs G2 H2 x2 r2 => q (v :: vs) G2 H2 (x.trans x2) ⟨v, vs, rfl, Rep.mono x2.g _ _ r, r2⟩
theorem eb_nil : EvAB K ρ tNil [] := fun G0 H0 G σ H S Q q => q [] G H (.refl S.x.s) rfl
theorem eb_cons {ta : TA} {ds : List D} (h : EvB K ρ te d) (h2 : EvAB K ρ ta ds) : EvAB K ρ (tCons te ta) (d :: ds) := fun G0 H0 G σ H S Q q =>
  h G0 H0 G σ H S _ fun v G1 H1 x r => h2 G0 H0 G1 σ H1 (S.ext x) _ fun vs G2 H2 x2 r2 => q (v :: vs) G2 H2 (x.trans x2) ⟨v, vs, rfl, r.ext x2, r2⟩
theorem ev_tup {ta : TA} {ds : List D} (h : EvA K ρ ta ds) (hl : ds.length ≤ 16777216 := by decide) : EvD K ρ (tTup ta) (.tup ds) := fun G0 H0 G σ H S Q q =>
  h G0 H0 G σ H S _ fun vs G1 H1 x r => ⟨by rw [r.len, sizeLine_eq]; exact hl, fun p hp => q (.ref p) (upd G1 p (.tup vs)) (upd H1 p (.tup vs)) (x.trans (.alloc x.s hp)) ⟨p, vs, rfl, upd_same, RepL.mono (Ex.new (x.s.back hp)) _ _ r⟩⟩
theorem ef_lst {ta : TA} {ds : List D} (h : EvA K ρ ta ds) (hl : ds.length ≤ 16777216 := by decide) : EvF K ρ (tLst ta) (.lst ds) := fun G0 H0 G σ H S Q q =>
  h G0 H0 G σ H S _ fun vs G1 H1 x r => ⟨by rw [r.len, sizeLine_eq]; exact hl, fun p hp => q p (.lst vs) G1 (upd H1 p (.lst vs)) (x.trans (.hid x.s hp)) (x.h.back hp) (x.s.back hp) upd_same r⟩
theorem ef_dnewK : EvF K ρ tDNewK (.dk [] []) := fun G0 H0 G σ H S Q q => fun p hp => q p (.dK []) G (upd H p (.dK [])) (.hid S.x.s hp) hp (S.x.s.back hp) upd_same ⟨[], rfl, rfl, rfl⟩
theorem ef_dnewT : EvF K ρ tDNewT (.dt [] []) := fun G0 H0 G σ H S Q q => fun p hp => q p (.dT []) G (upd H p (.dT [])) (.hid S.x.s hp) hp (S.x.s.back hp) upd_same ⟨[], rfl, rfl, rfl⟩

/-! ### calls by values -/
abbrev RC := List V → Hp → VK → Prop
def CbD (K : PySem.W.Frag) (r : RC) (ds : List D) (d : D) : Prop := ∀ (G H : Hp) (vs : List V), Ex G H → RepBL K G H ds vs → ∀ Q : VK, (∀ v G' H', Ext G H G' H' → Rep K G' d v → Q v H') → r vs H Q
def CbF (K : PySem.W.Frag) (r : RC) (ds : List D) (d : D) : Prop := ∀ (G H : Hp) (vs : List V), Ex G H → RepBL K G H ds vs → ∀ Q : VK, (∀ p o G' H', Ext G H G' H' → H p = none → G' p = none → H' p = some o → OwnO K G' d o → Q (.ref p) H') → r vs H Q
theorem ev_cb {r : RC} {ta : TA} {ds : List D} (h : EvAB K ρ ta ds) (hr : CbD K r ds d) : EvD K ρ (tCB r ta) d := fun G0 H0 G σ H S Q q =>
  h G0 H0 G σ H S _ fun vs G1 H1 x r1 => hr G1 H1 vs x.s r1 Q fun v G2 H2 x2 r2 => q v G2 H2 (x.trans x2) r2
theorem ef_cb {r : RC} {ta : TA} {ds : List D} (h : EvAB K ρ ta ds) (hr : CbF K r ds d) : EvF K ρ (tCB r ta) d := fun G0 H0 G σ H S Q q =>
  h G0 H0 G σ H S _ fun vs G1 H1 x r1 => hr G1 H1 vs x.s r1 Q fun p o G2 H2 x2 hp hg hh ho => q p o G2 H2 (x.trans x2) (x.h.back hp) hg hh ho

/-! ### a def's promise on data -/
/-- how a call ends: a value (.ow: a fresh object), or an exception with its fields -/
inductive Out where
  | ret (s : Sl) | exc (C : Addr) (ns : List Str) (l : List D)
def spD (K : PySem.W.Frag) (R : List D → Out → Prop) : Sp := fun vs H Q E => ∃ (G : Hp) (ds : List D) (o : Out), Ex G H ∧ RepL K G ds vs ∧ R ds o ∧
  match o with
  | .ret s => ∀ v G' H', Ext G H G' H' → SlotOk K H G' H' s (some v) → Q v H'
  | .exc C ns l => ∀ dd ws G' H', Ext G H G' H' → H dd = none → H' dd = some (.xd (ns.zip ws)) → ws.length = ns.length → RepL K H' l ws → E (.ref C) (some dd) H'
def De.of : Out → De
  | .ret s => { nx := fun _ => s = .im .non, rt := fun s' => s' = s }
  | .exc C ns l => { nx := fun _ => False, rt := fun _ => False, ex := fun C' ns' l' => C' = C ∧ ns' = ns ∧ l' = l }
def wr0 (n : Nat) (ds : List D) : List Sl := ds.map .im ++ List.replicate (n - ds.length) .no
theorem slots_none : ∀ (n : Nat), Slots K H0 G H (List.replicate n .no) (List.replicate n none) []
  | 0 => ⟨rfl, rfl⟩
  | n + 1 => ⟨none, _, [], [], rfl, rfl, rfl, slots_none n⟩
theorem slots_start : ∀ {ds : List D} {vs : List V} (n : Nat), RepL K G ds vs → Slots K H0 G H (ds.map .im ++ List.replicate n .no) (vs.map some ++ List.replicate n none) []
  | [], _, n, h => by
    cases (show _ = [] from h)
    exact slots_none n
  | d :: ds, _, n, h => by
    obtain ⟨v, r, rfl, h1, h2⟩ := h
    exact ⟨some v, _, [], [], rfl, rfl, ⟨rfl, v, rfl, h1⟩, slots_start n h2⟩
/-- a body on data: what its reading wants -/
theorem body_ok {R : List D → Out → Prop} {Nm : List Str} {vs : List V} {Q : VK} {ts : TS} (h : spD K R vs H Q E) (hb : ∀ ds o, R ds o → SvD K E (wr0 Nm.length ds) ts (De.of o)) :
    ts { nx := fun _ H' => Q .non H', rt := Q } (L2.start Nm vs) H := by
  obtain ⟨G, ds, o, e, r, ro, q⟩ := h
  have S : St K G H (wr0 Nm.length ds) G (L2.start Nm vs) H := by
    refine ⟨.refl e, [], ?_, .nil⟩
    unfold L2.start wr0
    rw [r.len]
    exact slots_start _ r
  refine hb ds o ro G H G _ H _ S ?_
  cases o with
  | ret s =>
    refine ⟨fun ρ G' σ H' _ S' z => ?_, fun s' v G' H' _ x so z => ?_, fun _ _ _ _ _ _ z => z.elim, fun _ _ _ _ _ _ z => z.elim, fun _ _ _ _ _ _ _ _ _ _ _ _ _ z => z.elim⟩
    · cases (show s = .im .non from z)
      exact q .non G' H' S'.x ⟨.non, rfl, rfl⟩
    · cases (show s' = s from z)
      exact q v G' H' x so
  | exc C ns l =>
    refine ⟨fun _ _ _ _ _ _ z => z.elim, fun _ _ _ _ _ _ _ z => z.elim, fun _ _ _ _ _ _ z => z.elim, fun _ _ _ _ _ _ z => z.elim, fun C' ns' l' dd ws G' H' _ x h0 h1 h2 h3 z => ?_⟩
    obtain ⟨rfl, rfl, rfl⟩ := z
    exact q dd ws G' H' x h0 h1 h2 h3
end
section
variable {P : Program} {w : World} {K : PySem.W.Frag} {mg : Str → Option Value} {base : Heap}
theorem fn_ok {x qual : Str} {st : Stmt} {f : Addr} {fd : FuncData} {Nm ps : List Str} {k : Nat} {R : List D → Out → Prop} (F : Fun K x qual st f fd) (S : FnScope Nm ps (defScope st)) (hl : ∀ ds o, R ds o → ds.length = ps.length)
    (hbody : ∀ (cdv : Value) (A : Around) (outer : List Env) (s : Shared) (H : Hp) (E : XK), Room k (A.deeper (envOfC qual (defScope st) s.heap.objs.size f cdv)) →
      ∃ t, PSs (cxOf CX0 P w K mg base Nm qual (defScope st) f cdv A outer s H E).nox (defBody st) t ∧ ∀ ds o, R ds o → SvD K E (wr0 Nm.length ds) t (De.of o)) : FnOk P w K mg base CX0 (k + 1) f fd ps (spD K R) := by
  refine F.ok S (fun vs H Q E h => ?_) (fun cdv A outer s H vs Q E hr h => ?_)
  · obtain ⟨G, ds, o, e, r, ro, q⟩ := h
    rw [r.len]; exact hl ds o ro
  · obtain ⟨t, h1, h2⟩ := hbody cdv A outer s H E hr
    exact ⟨t, h1, body_ok h h2⟩
theorem fn_okX {x qual : Str} {st : Stmt} {f : Addr} {fd : FuncData} {Nm ps : List Str} {k : Nat} {R : List D → Out → Prop} (F : Fun K x qual st f fd) (S : FnScope Nm ps (defScope st)) (hl : ∀ ds o, R ds o → ds.length = ps.length)
    (hbody : ∀ (cdv : Value) (A : Around) (outer : List Env) (s : Shared) (H : Hp) (E : XK), Room k (A.deeper (envOfC qual (defScope st) s.heap.objs.size f cdv)) →
      ∃ t, PSs (cxOf (L2.CX P w) P w K mg base Nm qual (defScope st) f cdv A outer s H E) (defBody st) t ∧ ∀ ds o, R ds o → SvD K E (wr0 Nm.length ds) t (De.of o)) : FnOk P w K mg base (L2.CX P w) (k + 1) f fd ps (spD K R) := by
  refine F.okX S (fun vs H Q E h => ?_) (fun cdv A outer s H vs Q E hr h => ?_)
  · obtain ⟨G, ds, o, e, r, ro, q⟩ := h
    rw [r.len]; exact hl ds o ro
  · obtain ⟨t, h1, h2⟩ := hbody cdv A outer s H E hr
    exact ⟨t, h1, body_ok h h2⟩
end

/-! ### calls -/
section
variable {K : PySem.W.Frag} {E : XK} {G G1 H G0 H0 : Hp} {ρ : List Sl} {Δ : De} {N : Ends} {t u : TS} {te : TE} {ta : TA} {d : D} {ds dds : List D} {dvs : List V} {R : List D → Out → Prop}
/-- constants that fill up the arguments -/
def DefD (K : PySem.W.Frag) (dds : List D) (dvs : List V) : Prop := ∀ G : Hp, RepL K G dds dvs
theorem def0 : DefD K [] [] := fun _ => rfl
theorem def_int {i : Int} {r : List D} {s : List V} (h : DefD K r s) : DefD K (.int i :: r) (.int i :: s) := fun G => ⟨_, _, rfl, rfl, h G⟩
theorem ev_call {W : XK} (ha : EvA K ρ ta ds) (hR : R (ds ++ dds) (.ret (.im d))) (hd : DefD K dds dvs := by exact def0) : EvD K ρ (tCall (spD K R) dvs W ta) d := fun G0 H0 G σ H S Q q =>
  ha G0 H0 G σ H S _ fun vs G1 H1 x r => ⟨G1, _, _, x.s, r.append (hd G1), hR, fun v G2 H2 x2 so => by
    obtain ⟨u, e, ru⟩ := so
    cases e
    exact q v G2 H2 (x.trans x2) ru⟩
theorem ef_call {W : XK} (ha : EvA K ρ ta ds) (hR : R (ds ++ dds) (.ret (.ow d))) (hd : DefD K dds dvs := by exact def0) : EvF K ρ (tCall (spD K R) dvs W ta) d := fun G0 H0 G σ H S Q q =>
  ha G0 H0 G σ H S _ fun vs G1 H1 x r => ⟨G1, _, _, x.s, r.append (hd G1), hR, fun v G2 H2 x2 so => by
    obtain ⟨p, o, e, h0, hg, hh, ho⟩ := so
    cases e
    exact q p o G2 H2 (x.trans x2) (x.h.back h0) hg hh ho⟩
/-- own objects lent; what comes stands in no object -/
theorem ev_callB {W : XK} (ha : EvAB K ρ ta ds) (hR : R (ds ++ dds) (.ret (.im d))) (hf : flat d = true) (hd : DefD K dds dvs := by exact def0) : EvD K ρ (tCall (spD K R) dvs W ta) d := fun G0 H0 G σ H S Q q =>
  ha G0 H0 G σ H S _ fun vs G1 H1 x r => ⟨H1, _, _, .refl _, (r.rep x.s).append (hd H1), hR, fun v G2 H2 x2 so => by
    obtain ⟨u, e, ru⟩ := so
    cases e
    exact q v G1 H2 (x.trans ⟨.refl _, x2.h, x.s.trans x2.h, fun _ _ => rfl⟩) (ru.flat hf)⟩
/-- a call that raises -/
def EvX (K : PySem.W.Frag) (E : XK) (ρ : List Sl) (te : TE) (Δ : De) : Prop := ∀ (G0 H0 G : Hp) (σ : L2.St) (H : Hp) (N : Ends), St K G0 H0 ρ G σ H → Mt K G0 H0 G E Δ N → ∀ Q : VK, te σ H Q
theorem ex_call {C : Addr} {ns : List Str} {l : List D} (ha : EvAB K ρ ta ds) (hR : R (ds ++ dds) (.exc C ns l)) (q : Δ.ex C ns l) (hd : DefD K dds dvs := by exact def0) : EvX K E ρ (tCall (spD K R) dvs E ta) Δ := fun G0 H0 G σ H N S M Q =>
  ha G0 H0 G σ H S _ fun vs G1 H1 x r => ⟨H1, _, _, .refl _, (r.rep x.s).append (hd H1), hR, fun dd ws G2 H2 x2 h0 h1 h2 h3 =>
    M.ex C ns l dd ws G1 H2 x.g (S.x.trans (x.trans ⟨.refl _, x2.h, x.s.trans x2.h, fun _ _ => rfl⟩)) (S.x.h.back (x.h.back h0)) h1 h2 h3 q⟩
theorem sv_dropX (h : EvX K E ρ te Δ) : SvD K E ρ (tDrop te) Δ := fun G0 H0 G σ H N S M => h G0 H0 G σ H N S M _
theorem sv_asgX {g : TG} (h : EvX K E ρ te Δ) : SvD K E ρ (tAsg te g) Δ := fun G0 H0 G σ H N S M => h G0 H0 G σ H N S M _
theorem sv_retX (h : EvX K E ρ te Δ) : SvD K E ρ (tRet te) Δ := fun G0 H0 G σ H N S M => h G0 H0 G σ H N S M _

/-! ### methods, fields -/
theorem lookup_zip_none {f : Str} : ∀ {ns : List Str} {vs : List V}, f ∉ ns → (ns.zip vs).lookup f = none
  | [], _, _ => by simp
  | _ :: _, [], _ => by simp
  | n :: ns, v :: vs, h => by
    have h1 : ¬ f = n := fun e => h (e ▸ List.mem_cons_self)
    have h2 : (f == n) = false := by simpa using h1
    rw [List.zip_cons_cons, List.lookup_cons, h2]
    exact lookup_zip_none fun z => h (List.mem_cons_of_mem _ z)
theorem lookup_zip : ∀ {ns : List Str} {vs : List V} {j : Nat} {f : Str} {v : V}, ns.Nodup → ns[j]? = some f → vs[j]? = some v → (ns.zip vs).lookup f = some v
  | [], _, _, _, _, _, e, _ => by simp at e
  | _ :: _, [], _, _, _, _, _, e => by simp at e
  | n :: ns, v :: vs, 0, f, x, nd, e1, e2 => by
    simp at e1 e2; subst e1; subst e2
    simp [List.lookup_cons]
  | n :: ns, v :: vs, j + 1, f, x, nd, e1, e2 => by
    have nd' := List.nodup_cons.mp nd
    have h1 : ¬ f = n := fun e => nd'.1 (e ▸ List.mem_of_getElem? (by simpa using e1))
    have h2 : (f == n) = false := by simpa using h1
    rw [List.zip_cons_cons, List.lookup_cons, h2]
    exact lookup_zip (j := j) nd'.2 (by simpa using e1) (by simpa using e2)
theorem ev_meth {C : Addr} {m : Str} {ns : List Str} {l : List D} {W : XK} {to : TE} (ho : EvD K ρ to (.ins C ns l)) (ha : EvA K ρ ta ds) (hR : R (.ins C ns l :: (ds ++ dds)) (.ret (.im d))) (hd : DefD K dds dvs := by exact def0) (hm : m ∉ ns := by decide +kernel) :
    EvD K ρ (tMeth C m (spD K R) dvs W to ta) d := fun G0 H0 G σ H S Q q =>
  ho G0 H0 G σ H S _ fun v G1 H1 x r => by
    have r' := r
    obtain ⟨a, dx, vs, rfl, h1, h2, h3⟩ := r'
    refine ⟨a, dx, _, rfl, x.s _ _ h1, lookup_zip_none hm, ha G0 H0 G1 σ H1 (S.ext x) _ fun ws G2 H2 x2 r2 => ⟨G2, .ins C ns l :: (ds ++ dds), _, x2.s, ⟨_, _, rfl, Rep.mono x2.g _ _ r, r2.append (hd G2)⟩, hR, fun v G3 H3 x3 so => ?_⟩⟩
    obtain ⟨u, e, ru⟩ := so
    cases e
    exact q v G3 H3 ((x.trans x2).trans x3) ru
theorem ef_meth {C : Addr} {m : Str} {ns : List Str} {l : List D} {W : XK} {to : TE} (ho : EvD K ρ to (.ins C ns l)) (ha : EvA K ρ ta ds) (hR : R (.ins C ns l :: (ds ++ dds)) (.ret (.ow d))) (hd : DefD K dds dvs := by exact def0) (hm : m ∉ ns := by decide +kernel) :
    EvF K ρ (tMeth C m (spD K R) dvs W to ta) d := fun G0 H0 G σ H S Q q =>
  ho G0 H0 G σ H S _ fun v G1 H1 x r => by
    have r' := r
    obtain ⟨a, dx, vs, rfl, h1, h2, h3⟩ := r'
    refine ⟨a, dx, _, rfl, x.s _ _ h1, lookup_zip_none hm, ha G0 H0 G1 σ H1 (S.ext x) _ fun ws G2 H2 x2 r2 => ⟨G2, .ins C ns l :: (ds ++ dds), _, x2.s, ⟨_, _, rfl, Rep.mono x2.g _ _ r, r2.append (hd G2)⟩, hR, fun v G3 H3 x3 so => ?_⟩⟩
    obtain ⟨p, o, e, h0, hg, hh, ho⟩ := so
    cases e
    exact q p o G3 H3 ((x.trans x2).trans x3) ((x.trans x2).h.back h0) hg hh ho
theorem ex_meth {C : Addr} {m : Str} {ns : List Str} {l : List D} {to : TE} {C' : Addr} {ns' : List Str} {l' : List D} (ho : EvD K ρ to (.ins C ns l)) (ha : EvAB K ρ ta ds) (hR : R (.ins C ns l :: (ds ++ dds)) (.exc C' ns' l')) (q : Δ.ex C' ns' l')
    (hd : DefD K dds dvs := by exact def0) (hm : m ∉ ns := by decide +kernel) : EvX K E ρ (tMeth C m (spD K R) dvs E to ta) Δ := fun G0 H0 G σ H N S M Q =>
  ho G0 H0 G σ H S _ fun v G1 H1 x r => by
    have r' := r
    obtain ⟨a, dx, vs, rfl, h1, h2, h3⟩ := r'
    refine ⟨a, dx, _, rfl, x.s _ _ h1, lookup_zip_none hm, ha G0 H0 G1 σ H1 (S.ext x) _ fun ws G2 H2 x2 r2 => ⟨H2, .ins C ns l :: (ds ++ dds), _, .refl _, ⟨_, _, rfl, Rep.mono (x2.g.trans x2.s) _ _ r, (r2.rep x2.s).append (hd H2)⟩, hR, fun dd us G3 H3 x3 h0 h1 h2 h3 => ?_⟩⟩
    exact M.ex C' ns' l' dd us G2 H3 (x.g.trans x2.g) (S.x.trans ((x.trans x2).trans ⟨.refl _, x3.h, x2.s.trans x3.h, fun _ _ => rfl⟩)) (S.x.h.back ((x.trans x2).h.back h0)) h1 h2 h3 q
theorem ev_fld {C : Addr} {f : Str} {ns : List Str} {l : List D} (j : Nat) (hc : Cls K C) (hn : NoAttr K C f) (h : EvB K ρ te (.ins C ns l)) (e2 : l[j]? = some d) (e1 : ns[j]? = some f := by rfl) (nd : ns.Nodup := by decide +kernel) : EvD K ρ (tFld K te f) d := fun G0 H0 G σ H S Q q =>
  h G0 H0 G σ H S _ fun v G1 H1 x r => by
    obtain ⟨a, dx, vs, rfl, h1, h2, h3⟩ := r.ins x.s
    obtain ⟨u, e3, ru⟩ := h3.get e2
    exact ⟨a, C, dx, _, u, rfl, h1, hc, hn, lookup_zip nd e1 e3, q u G1 H1 x ru⟩
theorem putF_zip {f : Str} {v : V} : ∀ {ns : List Str} {vs : List V}, f ∉ ns → vs.length = ns.length → putF f v (ns.zip vs) = (ns ++ [f]).zip (vs ++ [v])
  | [], [], _, _ => rfl
  | [], _ :: _, _, h => by simp at h
  | _ :: _, [], _, h => by simp at h
  | n :: ns, w :: vs, h, hl => by
    have h1 : ¬ n = f := fun e => h (e ▸ List.mem_cons_self)
    have h2 := putF_zip (v := v) (ns := ns) (vs := vs) (fun z => h (List.mem_cons_of_mem _ z)) (by simpa using hl)
    show putF f v ((n, w) :: ns.zip vs) = (n, w) :: (ns ++ [f]).zip (vs ++ [v])
    rw [← h2]
    show (if n = f then (n, v) :: ns.zip vs else (n, w) :: putF f v (ns.zip vs)) = _
    rw [if_neg h1]
theorem sv_fld {i : Nat} {C : Addr} {f : Str} {ns : List Str} {l : List D} {tv : TE} (hc : Cls K C) (hn : NoAttr K C f) (e : ρ[i]? = some (.ow (.ins C ns l))) (h : EvD K ρ tv d) (q : Δ.nx (ρ.set i (.ow (.ins C (ns ++ [f]) (l ++ [d])))))
    (hf : f ∉ ns := by decide +kernel) (hl : ns.length < 1000 := by decide) : SvD K E ρ (sFld K (tVar i) tv f) Δ := fun G0 H0 G σ H N S M =>
  h G0 H0 G σ H S _ fun v G1 H1 x r => by
    have S1 := S.ext x
    obtain ⟨u, e3, p, o, rfl, h0, hg, hh, ho⟩ := S1.get e
    cases o with
    | ins C' dx fs =>
      obtain ⟨rfl, vs, rfl, h2, h3⟩ := ho
      refine ⟨.ref p, e3, p, C', dx, _, rfl, hh, hc, hn, ?_, ?_⟩
      · rw [List.length_zip, h2]; omega
      · refine M.nx _ G1 σ _ x.g (S1.mut e e3 (o := .ins C' dx (putF f v (ns.zip vs))) ?_) q
        exact ⟨rfl, vs ++ [v], putF_zip hf h2, by simp [h2], h3.append (.one r)⟩
    | _ => exact ho.elim
end
end PL

set_option Elab.async false
set_option linter.all false
set_option maxRecDepth 100000
set_option maxHeartbeats 1000000
/-! DL3: operators, subscripts, built-ins, methods, loops on data. -/
namespace PL
open PySem PySem.Spec PyProof.Rows L2

noncomputable instance : DecidableEq D := fun a b => Classical.propDecidable (a = b)

/-! ### operators by values, joined -/
def rAddU (K : PySem.W.Frag) : R2 := fun x y H Q => (rI0 fun i j => .int (i + j)) x y H Q ∨ ((∃ i j, x = .str i ∧ y = .str j ∧ i.length + j.length ≤ sizeLine ∧ Q (.str (i ++ j)) H) ∨ (rCat x y H Q ∨ rCatA K x y H Q))
def CRepS (s : Str) (n : Int) : Prop := 0 ≤ n ∧ s.length * n.toNat ≤ 16777216 ∧ n ≤ 16777216
def repS (s : Str) (n : Int) : Str := ⟨((List.replicate n.toNat s.cps.toList).flatten).toArray⟩
def rRepS : R2 := fun x y H Q => ∃ s n, x = .str s ∧ y = .int n ∧ CRepS s n ∧ Q (.str (repS s n)) H
def rMulU : R2 := fun x y H Q => (rI CMul fun i j => .int (i * j)) x y H Q ∨ (rRep x y H Q ∨ rRepS x y H Q)
def rEqU (K : PySem.W.Frag) : R2 := fun x y H Q => rEq x y H Q ∨ rEqD K x y H Q
def rNeU (K : PySem.W.Frag) : R2 := fun x y H Q => rNe x y H Q ∨ rNeD K x y H Q
def rInU (K : PySem.W.Frag) : R2 := fun x y H Q => rIn K false x y H Q ∨ ∃ (c : Nat) (z : Str), x = .str ⟨#[c]⟩ ∧ y = .str z ∧ Q (.bl (decide (c ∈ z.cps.toList))) H
def rNInU (K : PySem.W.Frag) : R2 := fun x y H Q => rIn K true x y H Q ∨ ∃ (c : Nat) (z : Str), x = .str ⟨#[c]⟩ ∧ y = .str z ∧ Q (.bl (!decide (c ∈ z.cps.toList))) H
def rSlU (K : PySem.W.Frag) : V → Option Int → Option Int → Hp → VK → Prop := fun x lo hi H Q => rSlL K x lo hi H Q ∨ (rSlA K x lo hi H Q ∨ rSlS x lo hi H Q)
theorem foldl_app (l : List (Array Nat)) (a : Array Nat) : l.foldl (· ++ ·) a = a ++ (l.map Array.toList).flatten.toArray := by
  induction l generalizing a with
  | nil => simp
  | cons x l ih =>
    rw [List.foldl_cons, ih]
    apply Array.ext'
    simp
section
variable {X : Cx}
theorem op_addU : OpR X (binaryOp .Add) (rAddU X.K) := op_add.or (op_add_str.or (op_cat.or op_catA))
theorem op_repS : OpR X (binaryOp .Mult) rRepS := by
  intro pins s σ H x y v u Q I rx ry h
  obtain ⟨z, n, rfl, rfl, ⟨h0, h1, h2⟩, q⟩ := h
  obtain ⟨t, rfl⟩ := rx
  obtain ⟨t', rfl⟩ := ry
  have hfin : ∀ t2 : Tok, EP X pins σ Q (.str (repS z n) t2) { s with toks := s.toks + 1 } := fun t2 => ⟨.str _, H, I.tok _, ⟨_, rfl⟩, q⟩
  have hrep : repS z n = ⟨(List.replicate n.toNat z.cps).foldl (· ++ ·) #[]⟩ := by
    unfold repS
    rw [foldl_app]
    simp
  refine PySem.P.mul_str ?_ ?_ ?_ ?_
  · have a : ¬ n < -(2 ^ 63 : Int) := by omega
    have b : ¬ n ≥ 2 ^ 63 := by omega
    rw [decide_eq_false a, decide_eq_false b]; rfl
  · intro hn _ hgt
    have hle : (z.length : Int) * n ≤ 16777216 := by
      have h5 : ((z.length * n.toNat : Nat) : Int) ≤ 16777216 := Int.ofNat_le.mpr h1
      rw [Int.natCast_mul, Int.toNat_of_nonneg h0] at h5
      exact h5
    have h3 : (2 ^ 63 - 1) / n < (z.length : Int) := hgt
    have h4 : (2 ^ 63 - 1 : Int) < (z.length : Int) * n := by
      have := Int.lt_mul_of_ediv_lt (by omega) h3
      rwa [Int.mul_comm] at this ⊢
    omega
  · intro _ _
    unfold Builtin.Str.tooLong
    simp only [decide_eq_false_iff_not]
    have := sizeLine_eq
    omega
  · by_cases hn : n < 1
    · rw [if_pos hn]
      have e : n.toNat = 0 := by omega
      refine ⟨by decide, ?_⟩
      have q2 := hfin s.toks
      have : repS z n = Str.empty := by unfold repS; rw [e]; rfl
      rw [this] at q2
      exact q2
    · rw [if_neg hn]
      by_cases hc : (n == 1 || z.length == 0) = true
      · rw [if_pos hc]
        have : repS z n = z := by
          unfold repS
          rcases (Bool.or_eq_true _ _).mp hc with h | h
          · have : n = 1 := by simpa using h
            subst this; simp
          · have : z.cps = #[] := by
              have h' : z.cps.size = 0 := by simpa [Str.length] using h
              exact Array.eq_empty_of_size_eq_zero h'
            cases z; simp at this; subst this; simp
        exact ⟨.str z, H, I, ⟨_, rfl⟩, by rw [this] at q; exact q⟩
      · rw [if_neg hc, ← hrep]
        refine ⟨?_, hfin _⟩
        have hz : (repS z n).length = n.toNat * z.length := by
          unfold repS Str.length
          simp
        show (repS z n).length ≤ _
        rw [hz, Nat.mul_comm]
        have := sizeLine_eq
        omega
theorem op_mulU : OpR X (binaryOp .Mult) rMulU := op_mul.or (op_rep.or op_repS)
theorem op_eqU (hu : X.A.units + 64 < cLine) : OpR X (compareOp .Eq) (rEqU X.K) := op_eq.or (op_eqD hu)
theorem op_neU (hu : X.A.units + 64 < cLine) : OpR X (compareOp .NotEq) (rNeU X.K) := op_ne.or (op_neD hu)
theorem op_inU : OpR X (compareOp .In) (rInU X.K) := op_in_seq.or op_in_sign
theorem op_ninU : OpR X (compareOp .NotIn) (rNInU X.K) := op_notIn_seq.or op_notIn_sign
theorem sl_U : SlR X (rSlU X.K) := sl_list.or (sl_tupA.or sl_str)
end
end PL

set_option Elab.async false
set_option linter.all false
set_option maxRecDepth 100000
set_option maxHeartbeats 1000000
/-! DL4: what the operators, subscripts, built-ins give on data. -/
namespace PL
open PySem PySem.Spec PyProof.Rows L2

/-! ### data as PyData -/
mutual
def toP : D → PyData
  | .non => .none | .bl b => .bool b | .int i => .int i | .str s => .str s
  | .lst l => .list (toPL l) | .tup l => .tuple (toPL l)
  | .dk _ _ => .none | .dt _ _ => .none | .ins _ _ _ => .none | .scr _ => .none
def toPL : List D → List PyData
  | [] => []
  | d :: l => toP d :: toPL l
end
/-- None, bools, ints, texts, lists, tuples, to depth n; texts of real signs -/
def good : Nat → D → Prop
  | _, .non => True | _, .bl _ => True | _, .int _ => True
  | _, .str s => PySem.PyData.strOk s = true
  | n + 1, .lst l => ∀ d ∈ l, good n d
  | n + 1, .tup l => ∀ d ∈ l, good n d
  | _, _ => False
theorem good_up : ∀ (n : Nat) (d : D), good n d → good (n + 1) d
  | 0, d, h => by cases d <;> simp_all [good]
  | n + 1, d, h => by
    cases d with
    | lst l => exact fun x hx => good_up n x (h x hx)
    | tup l => exact fun x hx => good_up n x (h x hx)
    | _ => simp_all [good]
theorem toPL_map : ∀ l : List D, toPL l = l.map toP
  | [] => rfl
  | d :: l => by rw [toPL, toPL_map l]; rfl
theorem canLayAll_of : ∀ (l : List PyData), (∀ x ∈ l, x.canLay0 = true) → PyData.canLayAll0 l = true
  | [], _ => by simp [PyData.canLayAll0]
  | x :: l, h => by simp [PyData.canLayAll0, h x (by simp), canLayAll_of l fun y hy => h y (by simp [hy])]
theorem depthAll_of {n : Nat} : ∀ (l : List PyData), (∀ x ∈ l, x.depth ≤ n) → PyData.depthAll l ≤ n
  | [], _ => by simp [PyData.depthAll]
  | x :: l, h => by
    simp only [PyData.depthAll]
    exact Nat.max_le.mpr ⟨h x (by simp), depthAll_of l fun y hy => h y (by simp [hy])⟩
theorem good_lay : ∀ (n : Nat) (d : D), good n d → (toP d).canLay0 = true ∧ (toP d).depth ≤ n
  | 0, d, h => by cases d <;> simp_all [good, toP, PyData.canLay0, PyData.depth]
  | n + 1, d, h => by
    cases d with
    | lst l =>
      have h2 : ∀ x ∈ l.map toP, x.canLay0 = true ∧ x.depth ≤ n := fun x hx => by
        obtain ⟨y, hy, rfl⟩ := List.mem_map.mp hx
        exact good_lay n y (h y hy)
      refine ⟨?_, ?_⟩
      · simp only [toP, PyData.canLay0, toPL_map]
        exact canLayAll_of _ fun x hx => (h2 x hx).1
      · simp only [toP, PyData.depth, toPL_map]
        exact Nat.succ_le_succ (depthAll_of _ fun x hx => (h2 x hx).2)
    | tup l =>
      have h2 : ∀ x ∈ l.map toP, x.canLay0 = true ∧ x.depth ≤ n := fun x hx => by
        obtain ⟨y, hy, rfl⟩ := List.mem_map.mp hx
        exact good_lay n y (h y hy)
      refine ⟨?_, ?_⟩
      · simp only [toP, PyData.canLay0, toPL_map]
        exact canLayAll_of _ fun x hx => (h2 x hx).1
      · simp only [toP, PyData.depth, toPL_map]
        exact Nat.succ_le_succ (depthAll_of _ fun x hx => (h2 x hx).2)
    | str s => exact ⟨by simp only [toP, PyData.canLay0]; exact h, by simp [toP, PyData.depth]⟩
    | dk ks l => exact h.elim
    | dt ks l => exact h.elim
    | ins C ns l => exact h.elim
    | scr l => exact h.elim
    | _ => simp [toP, PyData.canLay0, PyData.depth]
theorem shaped_of {d : D} (h : good 60 d) : SeqAt.shaped (toP d) = true := by
  obtain ⟨h1, h2⟩ := good_lay 60 d h
  unfold SeqAt.shaped
  rw [h1, decide_eq_true (by omega : (toP d).depth ≤ 64)]; rfl
mutual
theorem dp_of {K : PySem.W.Frag} {H : Hp} : ∀ (n : Nat) (d : D) (v : V), good n d → Rep K H d v → Dp K H v (toP d)
  | _, .non, v, _, h => by cases (show v = .non from h); exact .non
  | _, .bl b, v, _, h => by cases (show v = .bl b from h); exact .bl b
  | _, .int b, v, _, h => by cases (show v = .int b from h); exact .int b
  | _, .str b, v, _, h => by cases (show v = .str b from h); exact .str b
  | n + 1, .lst l, v, g, h => by
    obtain ⟨a, vs, rfl, h1, h2⟩ := h
    exact .lst (SqL.of h1) (dpL_of n l vs g h2)
  | n + 1, .tup l, v, g, h => by
    obtain ⟨a, vs, rfl, h1, h2⟩ := h
    exact .tup (SqT.of h1) (dpL_of n l vs g h2)
  | 0, .lst l, v, g, h => by cases g
  | 0, .tup l, v, g, h => by cases g
  | n, .dk ks l, v, g, h => by cases n <;> cases g
  | n, .dt ks l, v, g, h => by cases n <;> cases g
  | n, .ins C ns l, v, g, h => by cases n <;> cases g
  | n, .scr l, v, g, h => by cases n <;> cases g
theorem dpL_of {K : PySem.W.Frag} {H : Hp} : ∀ (n : Nat) (l : List D) (vs : List V), (∀ d ∈ l, good n d) → RepL K H l vs → DpAll K H vs (toPL l)
  | n, [], vs, _, h => by cases (show vs = [] from h); exact .nil
  | n, d :: l, vs, g, h => by
    obtain ⟨v, r, rfl, h1, h2⟩ := h
    exact .cons (dp_of n d v (g d (by simp)) h1) (dpL_of n l r (fun x hx => g x (by simp [hx])) h2)
end
/-- no bool within: == is equality -/
def pure_ : Nat → D → Prop
  | _, .non => True | _, .int _ => True | _, .str _ => True
  | n + 1, .lst l => ∀ d ∈ l, pure_ n d
  | n + 1, .tup l => ∀ d ∈ l, pure_ n d
  | _, _ => False
theorem eqvAll_pure {n : Nat} (ih : ∀ a b, pure_ n a → pure_ n b → (PyData.eqv (toP a) (toP b) = true ↔ a = b)) : ∀ (l m : List D), (∀ d ∈ l, pure_ n d) → (∀ d ∈ m, pure_ n d) → (PyData.eqvAll (toPL l) (toPL m) = true ↔ l = m)
  | [], [], _, _ => by simp [toPL, PyData.eqvAll]
  | [], _ :: _, _, _ => by simp [toPL, PyData.eqvAll]
  | _ :: _, [], _, _ => by simp [toPL, PyData.eqvAll]
  | a :: l, b :: m, h1, h2 => by
    simp only [toPL, PyData.eqvAll, Bool.and_eq_true, List.cons.injEq]
    rw [ih a b (h1 a (by simp)) (h2 b (by simp)), eqvAll_pure ih l m (fun x hx => h1 x (by simp [hx])) fun x hx => h2 x (by simp [hx])]
theorem eqv_pure : ∀ (n : Nat) (a b : D), pure_ n a → pure_ n b → (PyData.eqv (toP a) (toP b) = true ↔ a = b)
  | 0, a, b, h1, h2 => by cases a <;> cases b <;> simp_all [pure_, toP, PyData.eqv]
  | n + 1, a, b, h1, h2 => by
    cases a with
    | lst l =>
      cases b with
      | lst m => simp only [toP, PyData.eqv, D.lst.injEq]; exact eqvAll_pure (eqv_pure n) l m h1 h2
      | _ => simp_all [pure_, toP, PyData.eqv]
    | tup l =>
      cases b with
      | tup m => simp only [toP, PyData.eqv, D.tup.injEq]; exact eqvAll_pure (eqv_pure n) l m h1 h2
      | _ => simp_all [pure_, toP, PyData.eqv]
    | _ => cases b <;> simp_all [pure_, toP, PyData.eqv]

section
variable {K : PySem.W.Frag} {ρ : List Sl} {te ta tb : TE} {d : D}
/-! ### + * - -/
theorem oa_int {i j : Int} : OpD K (rAddU K) (.int i) (.int j) (.int (i + j)) := OpD.or1 od_I0
theorem oa_str {i j : Str} (h : i.length + j.length ≤ 16777216) : OpD K (rAddU K) (.str i) (.str j) (.str (i ++ j)) := fun G H v1 v2 e h1 h2 Q q => by
  cases h1.str; cases h2.str
  exact .inr (.inl ⟨i, j, rfl, rfl, by rw [sizeLine_eq]; exact h, q _ G H (.refl e) rfl⟩)
theorem oa_lst {l m : List D} (h : l.length + m.length ≤ 16777216) : OpF K (rAddU K) (.lst l) (.lst m) (.lst (l ++ m)) := fun G H v1 v2 e h1 h2 Q q => by
  obtain ⟨a, vs, rfl, ha, r1⟩ := h1.lst e
  obtain ⟨b, ws, rfl, hb, r2⟩ := h2.lst e
  exact .inr (.inr (.inl ⟨a, b, vs, ws, rfl, rfl, ha, hb, by rw [r1.len, r2.len, sizeLine_eq]; exact h, fun p hp => q p _ G _ (.hid e hp) hp (e.back hp) upd_same (r1.append r2)⟩))
theorem om_int {i j : Int} (h : CMul i j) : OpD K rMulU (.int i) (.int j) (.int (i * j)) := OpD.or1 (od_I h)
theorem om_rep {l : List D} {k : Int} (h : l.length * k.toNat ≤ 16777216) (h1 : -(2 ^ 63) ≤ k) (h2 : k < 2 ^ 63) : OpF K rMulU (.lst l) (.int k) (.lst (List.replicate k.toNat l).flatten) := fun G H v1 v2 e r1 r2 Q q => by
  obtain ⟨a, vs, rfl, ha, r1⟩ := r1.lst e
  cases r2.int
  refine .inr (.inl ⟨a, k, vs, rfl, rfl, ha, h1, h2, by rw [r1.len, sizeLine_eq]; exact h, fun p hp => q p _ G _ (.hid e hp) hp (e.back hp) upd_same ?_⟩)
  show RepL K G (List.replicate k.toNat l).flatten _
  have : ∀ n : Nat, RepL K G (List.replicate n l).flatten (List.replicate n vs).flatten := fun n => by
    induction n with
    | zero => exact rfl
    | succ n ih => rw [List.replicate_succ, List.replicate_succ, List.flatten_cons, List.flatten_cons]; exact r1.append ih
  exact this _
theorem om_str {s : Str} {n : Int} (h : CRepS s n) : OpD K rMulU (.str s) (.int n) (.str (repS s n)) := fun G H v1 v2 e h1 h2 Q q => by
  cases h1.str; cases h2.int
  exact .inr (.inr ⟨s, n, rfl, rfl, h, q _ G H (.refl e) rfl⟩)
/-! ### == != -/
theorem oe_int {i j : Int} : OpD K (rEqU K) (.int i) (.int j) (.bl (decide (i = j))) := fun G H v1 v2 e h1 h2 Q q => by
  cases h1.int; cases h2.int
  refine .inl ⟨rfl, q _ G H (.refl e) ?_⟩
  show V.bl _ = V.bl _
  congr 1
  by_cases z : i = j
  · subst z; simp
  · rw [decide_eq_false z, decide_eq_false (fun y => z (V.int.inj y))]
theorem on_int {i j : Int} : OpD K (rNeU K) (.int i) (.int j) (.bl (decide (i ≠ j))) := fun G H v1 v2 e h1 h2 Q q => by
  cases h1.int; cases h2.int
  refine .inl ⟨rfl, q _ G H (.refl e) ?_⟩
  show V.bl _ = V.bl _
  congr 1
  by_cases z : i = j
  · subst z; simp
  · rw [decide_eq_true (show i ≠ j from z), decide_eq_false (fun y => z (V.int.inj y))]; rfl
theorem oe_str {i j : Str} : OpD K (rEqU K) (.str i) (.str j) (.bl (decide (i = j))) := fun G H v1 v2 e h1 h2 Q q => by
  cases h1.str; cases h2.str
  refine .inl ⟨rfl, q _ G H (.refl e) ?_⟩
  show V.bl _ = V.bl _
  congr 1
  by_cases z : i = j
  · subst z; simp
  · rw [decide_eq_false z, decide_eq_false (fun y => z (V.str.inj y))]
theorem on_str {i j : Str} : OpD K (rNeU K) (.str i) (.str j) (.bl (decide (i ≠ j))) := fun G H v1 v2 e h1 h2 Q q => by
  cases h1.str; cases h2.str
  refine .inl ⟨rfl, q _ G H (.refl e) ?_⟩
  show V.bl _ = V.bl _
  congr 1
  by_cases z : i = j
  · subst z; simp
  · rw [decide_eq_true (show i ≠ j from z), decide_eq_false (fun y => z (V.str.inj y))]; rfl
theorem oe_bl {i j : Bool} : OpD K (rEqU K) (.bl i) (.bl j) (.bl (decide (i = j))) := fun G H v1 v2 e h1 h2 Q q => by
  cases h1.bl; cases h2.bl
  refine .inl ⟨rfl, q _ G H (.refl e) ?_⟩
  cases i <;> cases j <;> rfl
theorem on_bl {i j : Bool} : OpD K (rNeU K) (.bl i) (.bl j) (.bl (decide (i ≠ j))) := fun G H v1 v2 e h1 h2 Q q => by
  cases h1.bl; cases h2.bl
  refine .inl ⟨rfl, q _ G H (.refl e) ?_⟩
  cases i <;> cases j <;> rfl
theorem oe_deep {a b : D} (ga : good 60 a) (gb : good 60 b) : OpD K (rEqU K) a b (.bl (PyData.eqv (toP a) (toP b))) := fun G H v1 v2 e h1 h2 Q q =>
  .inr ⟨_, _, dp_of _ _ _ ga (h1.rep e), dp_of _ _ _ gb (h2.rep e), shaped_of ga, shaped_of gb, q _ G H (.refl e) rfl⟩
theorem on_deep {a b : D} (ga : good 60 a) (gb : good 60 b) : OpD K (rNeU K) a b (.bl (!PyData.eqv (toP a) (toP b))) := fun G H v1 v2 e h1 h2 Q q =>
  .inr ⟨_, _, dp_of _ _ _ ga (h1.rep e), dp_of _ _ _ gb (h2.rep e), shaped_of ga, shaped_of gb, q _ G H (.refl e) rfl⟩
theorem oe_nil {l : List D} (ga : good 60 (.lst l)) : OpD K (rEqU K) (.lst l) (.lst []) (.bl l.isEmpty) := fun G H v1 v2 e h1 h2 Q q => by
  refine oe_deep ga (by simp [good]) G H v1 v2 e h1 h2 Q fun v G' H' x r => q v G' H' x ?_
  cases l with
  | nil => exact r
  | cons a l => exact r
theorem on_nil {l : List D} (ga : good 60 (.lst l)) : OpD K (rNeU K) (.lst l) (.lst []) (.bl (!l.isEmpty)) := fun G H v1 v2 e h1 h2 Q q => by
  refine on_deep ga (by simp [good]) G H v1 v2 e h1 h2 Q fun v G' H' x r => q v G' H' x ?_
  cases l with
  | nil => exact r
  | cons a l => exact r
theorem oe_pure {a b : D} (ga : good 60 a) (gb : good 60 b) (pa : pure_ 60 a) (pb : pure_ 60 b) : OpD K (rEqU K) a b (.bl (decide (a = b))) := fun G H v1 v2 e h1 h2 Q q => by
  refine oe_deep ga gb G H v1 v2 e h1 h2 Q fun v G' H' x r => q v G' H' x ?_
  have h := eqv_pure 60 a b pa pb
  by_cases z : a = b
  · rw [decide_eq_true z]; rw [h.mpr z] at r; exact r
  · rw [decide_eq_false z]
    have : PyData.eqv (toP a) (toP b) = false := by
      cases e : PyData.eqv (toP a) (toP b)
      · rfl
      · exact absurd (h.mp e) z
    rw [this] at r; exact r
theorem on_pure {a b : D} (ga : good 60 a) (gb : good 60 b) (pa : pure_ 60 a) (pb : pure_ 60 b) : OpD K (rNeU K) a b (.bl (decide (a ≠ b))) := fun G H v1 v2 e h1 h2 Q q => by
  refine on_deep ga gb G H v1 v2 e h1 h2 Q fun v G' H' x r => q v G' H' x ?_
  have h := eqv_pure 60 a b pa pb
  by_cases z : a = b
  · rw [decide_eq_false (fun y => y z)]; rw [h.mpr z] at r; exact r
  · rw [decide_eq_true (show a ≠ b from z)]
    have : PyData.eqv (toP a) (toP b) = false := by
      cases e : PyData.eqv (toP a) (toP b)
      · rfl
      · exact absurd (h.mp e) z
    rw [this] at r; exact r
/-! ### in -/
/-- in a list or a tuple of flat things -/
def fl : D → Option V
  | .non => some .non | .int i => some (.int i) | .str s => some (.str s) | _ => none
theorem flatV_of : ∀ {l : List D} {G : Hp} {vs : List V}, (∀ d ∈ l, (fl d).isSome = true) → RepL K G l vs → vs = l.filterMap fl ∧ vs.all flatV = true
  | [], _, vs, _, h => by cases (show vs = [] from h); exact ⟨rfl, rfl⟩
  | d :: l, G, vs, hf, h => by
    obtain ⟨v, r, rfl, h1, h2⟩ := h
    obtain ⟨e, a⟩ := flatV_of (fun x hx => hf x (by simp [hx])) h2
    have hd := hf d (by simp)
    cases d with
    | non => cases (show v = _ from h1); exact ⟨by rw [List.filterMap_cons]; show _ = V.non :: _; rw [← e], by rw [List.all_cons, a]; rfl⟩
    | int i => cases (show v = _ from h1); exact ⟨by rw [List.filterMap_cons]; show _ = V.int i :: _; rw [← e], by rw [List.all_cons, a]; rfl⟩
    | str i => cases (show v = _ from h1); exact ⟨by rw [List.filterMap_cons]; show _ = V.str i :: _; rw [← e], by rw [List.all_cons, a]; rfl⟩
    | _ => cases hd
theorem inV_int {i : Int} : ∀ {ns : List Int}, inV (.int i) (ns.map V.int) = decide (i ∈ ns)
  | [] => rfl
  | n :: ns => by
    have h := inV_int (i := i) (ns := ns)
    unfold inV at h ⊢
    rw [List.map_cons, List.any_cons, h]
    by_cases z : i = n
    · subst z; simp [eqV]
    · have : ¬ n = i := fun y => z y.symm
      simp [eqV, z, this]
theorem inV_str {i : Str} : ∀ {ns : List Str}, inV (.str i) (ns.map V.str) = decide (i ∈ ns)
  | [] => rfl
  | n :: ns => by
    have h := inV_str (i := i) (ns := ns)
    unfold inV at h ⊢
    rw [List.map_cons, List.any_cons, h]
    by_cases z : i = n
    · subst z; simp [eqV]
    · have : ¬ n = i := fun y => z y.symm
      simp [eqV, z, this]
theorem all_flat_int : ∀ ns : List Int, (ns.map V.int).all flatV = true
  | [] => rfl
  | n :: ns => by rw [List.map_cons, List.all_cons, all_flat_int ns]; rfl
theorem all_flat_str : ∀ ns : List Str, (ns.map V.str).all flatV = true
  | [] => rfl
  | n :: ns => by rw [List.map_cons, List.all_cons, all_flat_str ns]; rfl
theorem oi_lint {i : Int} {ns : List Int} : OpD K (rInU K) (.int i) (.lst (ns.map .int)) (.bl (decide (i ∈ ns))) := fun G H v1 v2 e h1 h2 Q q => by
  cases h1.int
  obtain ⟨a, vs, rfl, ha, r⟩ := h2.lst e
  cases r.ints
  refine .inl ⟨a, _, rfl, .inl (SqL.of ha), rfl, all_flat_int ns, ?_⟩
  rw [inV_int]
  exact q _ G H (.refl e) rfl
theorem oi_tint {i : Int} {ns : List Int} : OpD K (rInU K) (.int i) (.tup (ns.map .int)) (.bl (decide (i ∈ ns))) := fun G H v1 v2 e h1 h2 Q q => by
  cases h1.int
  obtain ⟨a, vs, rfl, ha, r⟩ := h2.tup e
  cases r.ints
  refine .inl ⟨a, _, rfl, .inr (SqT.of ha), rfl, all_flat_int ns, ?_⟩
  rw [inV_int]
  exact q _ G H (.refl e) rfl
theorem oi_tstr {i : Str} {ns : List Str} : OpD K (rInU K) (.str i) (.tup (ns.map .str)) (.bl (decide (i ∈ ns))) := fun G H v1 v2 e h1 h2 Q q => by
  cases h1.str
  obtain ⟨a, vs, rfl, ha, r⟩ := h2.tup e
  cases r.strs
  refine .inl ⟨a, _, rfl, .inr (SqT.of ha), rfl, all_flat_str ns, ?_⟩
  rw [inV_str]
  exact q _ G H (.refl e) rfl
theorem oi_sign {c : Nat} {z : Str} : OpD K (rInU K) (.str ⟨#[c]⟩) (.str z) (.bl (decide (c ∈ z.cps.toList))) := fun G H v1 v2 e h1 h2 Q q => by
  cases h1.str; cases h2.str
  exact .inr ⟨c, z, rfl, rfl, q _ G H (.refl e) rfl⟩
theorem oni_sign {c : Nat} {z : Str} : OpD K (rNInU K) (.str ⟨#[c]⟩) (.str z) (.bl (!decide (c ∈ z.cps.toList))) := fun G H v1 v2 e h1 h2 Q q => by
  cases h1.str; cases h2.str
  exact .inr ⟨c, z, rfl, rfl, q _ G H (.refl e) rfl⟩
theorem oni_lint {i : Int} {ns : List Int} : OpD K (rNInU K) (.int i) (.lst (ns.map .int)) (.bl (!decide (i ∈ ns))) := fun G H v1 v2 e h1 h2 Q q => by
  cases h1.int
  obtain ⟨a, vs, rfl, ha, r⟩ := h2.lst e
  cases r.ints
  refine .inl ⟨a, _, rfl, .inl (SqL.of ha), rfl, all_flat_int ns, ?_⟩
  rw [inV_int]
  exact q _ G H (.refl e) rfl
/-! ### subscripts -/
theorem atI_nn {α : Type} {l : List α} {i : Int} (h0 : 0 ≤ i) (h1 : i < l.length) : atI l i = l[i.toNat]? := by
  unfold atI ixN
  rw [if_pos h0, if_pos h1]; rfl
theorem atI_rep {l : List D} {vs : List V} {G : Hp} {i : Int} (r : RepL K G l vs) (h : atI l i = some d) : ∃ v, atI vs i = some v ∧ Rep K G d v := by
  unfold atI at h ⊢
  rw [r.len]
  cases e : ixN l.length i with
  | none => rw [e] at h; cases h
  | some j =>
    rw [e] at h
    exact r.get h
theorem ox_lst {l : List D} {i : Int} (h : atI l i = some d) : OpD K (rIx K) (.lst l) (.int i) d := fun G H v1 v2 e h1 h2 Q q => by
  cases h2.int
  obtain ⟨a, vs, rfl, ha, r⟩ := h1.lst e
  obtain ⟨v, h3, h4⟩ := atI_rep r h
  exact .inl ⟨a, vs, i, v, rfl, rfl, SqL.of ha, h3, q v G H (.refl e) h4⟩
theorem ox_scr {ns : List Int} {i : Int} (h0 : 0 ≤ i) (h1 : i < ns.length) : OpD K (rIx K) (.scr ns) (.int i) (.int (ns.getD i.toNat 0)) := fun G H v1 v2 e r1 h2 Q q => by
  cases h2.int
  obtain ⟨a, rfl, ha⟩ := r1.scr e
  refine .inl ⟨a, _, i, .int (ns.getD i.toNat 0), rfl, rfl, ha, ?_, q _ G H (.refl e) rfl⟩
  rw [atI_nn h0 (by simpa using h1), List.getElem?_map]
  have : i.toNat < ns.length := by omega
  rw [List.getElem?_eq_getElem this]
  simp [List.getD, List.getElem?_eq_getElem this]
theorem ox_tup {l : List D} {i : Int} (h : atI l i = some d) : OpD K (rIx K) (.tup l) (.int i) d := fun G H v1 v2 e h1 h2 Q q => by
  cases h2.int
  obtain ⟨a, vs, rfl, ha, r⟩ := h1.tup e
  obtain ⟨v, h3, h4⟩ := atI_rep r h
  exact .inr (.inl ⟨a, vs, i, v, rfl, rfl, SqT.of ha, h3, q v G H (.refl e) h4⟩)
theorem ox_str {s : Str} {i : Int} {c : Nat} (hl : s.length ≤ 16777216) (h : atI s.cps.toList i = some c) : OpD K (rIx K) (.str s) (.int i) (.str ⟨#[c]⟩) := fun G H v1 v2 e h1 h2 Q q => by
  cases h1.str; cases h2.int
  exact .inr (.inr ⟨s, i, c, rfl, rfl, by rw [sizeLine_eq]; exact hl, h, q _ G H (.refl e) rfl⟩)
theorem atI_ints {ns : List Int} {i : Int} (h0 : 0 ≤ i) (h1 : i < ns.length) : atI (ns.map D.int) i = some (.int (ns.getD i.toNat 0)) := by
  rw [atI_nn h0 (by simpa using h1), List.getElem?_map]
  have : i.toNat < ns.length := by omega
  rw [List.getElem?_eq_getElem this]
  simp [List.getD, List.getElem?_eq_getElem this]
theorem ox_int {ns : List Int} {i : Int} (h0 : 0 ≤ i) (h1 : i < ns.length) : OpD K (rIx K) (.lst (ns.map .int)) (.int i) (.int (ns.getD i.toNat 0)) := ox_lst (atI_ints h0 h1)
/-! ### slices -/
def EvO (K : PySem.W.Frag) (ρ : List Sl) (to : TO) (o : Option Int) : Prop := ∀ (G0 H0 G : Hp) (σ : L2.St) (H : Hp), St K G0 H0 ρ G σ H → ∀ Q : Option Int → Hp → Prop, (∀ G' H', Ext G H G' H' → Q o H') → to σ H Q
theorem eo_none : EvO K ρ tNoPart none := fun G0 H0 G σ H S Q q => q G H (.refl S.x.s)
theorem eo_some {i : Int} (h : EvD K ρ te (.int i)) : EvO K ρ (tPart te) (some i) := fun G0 H0 G σ H S Q q => h G0 H0 G σ H S _ fun v G' H' x r => ⟨i, r, q G' H' x⟩
def cutD {α : Type} (xs : List α) (lo hi : Option Int) : List α := (xs.drop (HT.sIx xs.length 0 lo)).take (HT.sIx xs.length xs.length hi - HT.sIx xs.length 0 lo)
theorem ef_slice {tl th : TO} {l : List D} {lo hi : Option Int} (h : EvB K ρ te (.lst l)) (h1 : EvO K ρ tl lo) (h2 : EvO K ρ th hi) : EvF K ρ (tSl (rSlU K) te tl th) (.lst (cutD l lo hi)) := fun G0 H0 G σ H S Q q =>
  h G0 H0 G σ H S _ fun v G1 H1 x1 r => h1 G0 H0 G1 σ H1 (S.ext x1) _ fun G2 H2 x2 => h2 G0 H0 G2 σ H2 ((S.ext x1).ext x2) _ fun G3 H3 x3 => by
    have x := (x1.trans x2).trans x3
    obtain ⟨a, vs, rfl, ha, rr⟩ := (r.ext (x2.trans x3)).lst x.s
    refine .inl ⟨a, vs, rfl, SqL.of ha, fun p hp => q p (.lst (cutV vs lo hi)) G3 _ (x.trans (.hid x.s hp)) (x.h.back hp) (x.s.back hp) upd_same ?_⟩
    show RepL K G3 (cutD l lo hi) (cutV vs lo hi)
    unfold cutD cutV
    rw [rr.len]
    exact (rr.drop _).take _
theorem ev_sliceS {tl th : TO} {s : Str} {lo hi : Option Int} (h : EvD K ρ te (.str s)) (h1 : EvO K ρ tl lo) (h2 : EvO K ρ th hi) (hs : s.length ≤ 16777216) : EvD K ρ (tSl (rSlU K) te tl th) (.str (cutS s lo hi)) := fun G0 H0 G σ H S Q q =>
  h G0 H0 G σ H S _ fun v G1 H1 x1 r => h1 G0 H0 G1 σ H1 (S.ext x1) _ fun G2 H2 x2 => h2 G0 H0 G2 σ H2 ((S.ext x1).ext x2) _ fun G3 H3 x3 => by
    cases (show v = .str s from r)
    exact .inr (.inr ⟨s, rfl, by rw [sizeLine_eq]; exact hs, q _ G3 H3 ((x1.trans x2).trans x3) rfl⟩)
theorem ef_rev {l : List D} (h : EvB K ρ te (.lst l)) : EvF K ρ (tRevL K te) (.lst l.reverse) := fun G0 H0 G σ H S Q q =>
  h G0 H0 G σ H S _ fun v G1 H1 x1 r => by
    obtain ⟨a, vs, rfl, ha, rr⟩ := r.lst x1.s
    exact ⟨a, vs, rfl, SqL.of ha, fun p hp => q p _ G1 _ (x1.trans (.hid x1.s hp)) (x1.h.back hp) (x1.s.back hp) upd_same rr.reverse⟩
end
end PL

set_option Elab.async false
set_option linter.all false
set_option maxRecDepth 100000
set_option maxHeartbeats 1000000
/-! DL5: built-ins, methods, loops, comprehensions on data. -/
namespace PL
open PySem PySem.Spec PyProof.Rows L2

section
variable {K : PySem.W.Frag} {E : XK} {ρ : List Sl} {Δ : De} {te ta tb : TE} {d : D}
/-! ### built-ins -/
theorem one_of {G H : Hp} {vs : List V} {d : D} (h : RepBL K G H [d] vs) : ∃ v, vs = [v] ∧ RepB K G H d v := by
  obtain ⟨v, r, rfl, h1, h2⟩ := h
  cases (show r = [] from h2)
  exact ⟨v, rfl, h1⟩
theorem two_of {G H : Hp} {vs : List V} {d d' : D} (h : RepBL K G H [d, d'] vs) : ∃ v w, vs = [v, w] ∧ RepB K G H d v ∧ RepB K G H d' w := by
  obtain ⟨v, r, rfl, h1, w, r2, rfl, h2, h3⟩ := h
  cases (show r2 = [] from h3)
  exact ⟨v, w, rfl, h1, h2⟩
abbrev qLen (K : PySem.W.Frag) : RC := fun xs H Q => ∃ x n, xs = [x] ∧ LenV K x H n ∧ Q (.int n) H
abbrev qInt : RC := fun xs H Q => (∃ i, xs = [.int i] ∧ Q (.int i) H) ∨ ∃ k, xs = [.bl k] ∧ Q (.int (if k then 1 else 0)) H
abbrev qMin2 : RC := fun xs H Q => ∃ i j, xs = [.int i, .int j] ∧ Q (.int (if j < i then j else i)) H
abbrev qMax2 : RC := fun xs H Q => ∃ i j, xs = [.int i, .int j] ∧ Q (.int (if j > i then j else i)) H
abbrev qListOf (K : PySem.W.Frag) : RC := fun xs H Q => ∃ p ys, xs = [.ref p] ∧ (SqL K H p ys ∨ SqT K H p ys) ∧ ∀ l, H l = none → Q (.ref l) (upd H l (.lst ys))
abbrev qTupOf (K : PySem.W.Frag) : RC := fun xs H Q => ∃ p ys, xs = [.ref p] ∧ ((SqL K H p ys ∧ ∀ l, H l = none → Q (.ref l) (upd H l (.tup ys))) ∨ (SqT K H p ys ∧ Q (.ref p) H))
theorem c_len_lst {l : List D} : CbD K (qLen K) [.lst l] (.int (l.length : Int)) := fun G H vs e r Q q => by
  obtain ⟨v, rfl, r1⟩ := one_of r
  obtain ⟨a, ws, rfl, ha, r2⟩ := r1.lst e
  refine ⟨_, _, rfl, .inl ⟨ws, SqL.of ha, rfl⟩, ?_⟩
  rw [r2.len]
  exact q _ G H (.refl e) rfl
theorem c_len_scr {l : List Int} : CbD K (qLen K) [.scr l] (.int (l.length : Int)) := fun G H vs e r Q q => by
  obtain ⟨v, rfl, r1⟩ := one_of r
  obtain ⟨a, rfl, ha⟩ := r1.scr e
  refine ⟨_, _, rfl, .inl ⟨_, ha, rfl⟩, ?_⟩
  rw [List.length_map]
  exact q _ G H (.refl e) rfl
theorem c_len_tup {l : List D} : CbD K (qLen K) [.tup l] (.int (l.length : Int)) := fun G H vs e r Q q => by
  obtain ⟨v, rfl, r1⟩ := one_of r
  obtain ⟨a, ws, rfl, ha, r2⟩ := r1.tup e
  refine ⟨_, _, rfl, .inr ⟨ws, SqT.of ha, rfl⟩, ?_⟩
  rw [r2.len]
  exact q _ G H (.refl e) rfl
theorem c_len_str {s : Str} (h : s.length ≤ 16777216) : CbD K (qLen K) [.str s] (.int (s.length : Int)) := fun G H vs e r Q q => by
  obtain ⟨v, rfl, r1⟩ := one_of r
  cases r1.str
  exact ⟨_, _, rfl, ⟨by rw [sizeLine_eq]; exact h, rfl⟩, q _ G H (.refl e) rfl⟩
theorem c_int {i : Int} : CbD K qInt [.int i] (.int i) := fun G H vs e r Q q => by
  obtain ⟨v, rfl, r1⟩ := one_of r
  cases r1.int
  exact .inl ⟨i, rfl, q _ G H (.refl e) rfl⟩
theorem c_intB {b : Bool} : CbD K qInt [.bl b] (.int (if b then 1 else 0)) := fun G H vs e r Q q => by
  obtain ⟨v, rfl, r1⟩ := one_of r
  cases r1.bl
  exact .inr ⟨b, rfl, q _ G H (.refl e) rfl⟩
theorem c_min {i j : Int} : CbD K qMin2 [.int i, .int j] (.int (min i j)) := fun G H vs e r Q q => by
  obtain ⟨v, w, rfl, r1, r2⟩ := two_of r
  cases r1.int; cases r2.int
  refine ⟨i, j, rfl, q _ G H (.refl e) ?_⟩
  show V.int _ = V.int _
  congr 1
  omega
theorem c_max {i j : Int} : CbD K qMax2 [.int i, .int j] (.int (max i j)) := fun G H vs e r Q q => by
  obtain ⟨v, w, rfl, r1, r2⟩ := two_of r
  cases r1.int; cases r2.int
  refine ⟨i, j, rfl, q _ G H (.refl e) ?_⟩
  show V.int _ = V.int _
  congr 1
  omega
theorem c_list {l : List D} : CbF K (qListOf K) [.lst l] (.lst l) := fun G H vs e r Q q => by
  obtain ⟨v, rfl, r1⟩ := one_of r
  obtain ⟨a, ws, rfl, ha, r2⟩ := r1.lst e
  exact ⟨a, ws, rfl, .inl (SqL.of ha), fun p hp => q p _ G _ (.hid e hp) hp (e.back hp) upd_same r2⟩
theorem c_listT {l : List D} : CbF K (qListOf K) [.tup l] (.lst l) := fun G H vs e r Q q => by
  obtain ⟨v, rfl, r1⟩ := one_of r
  obtain ⟨a, ws, rfl, ha, r2⟩ := r1.tup e
  exact ⟨a, ws, rfl, .inr (SqT.of ha), fun p hp => q p _ G _ (.hid e hp) hp (e.back hp) upd_same r2⟩
theorem c_tuple {l : List D} : CbD K (qTupOf K) [.lst l] (.tup l) := fun G H vs e r Q q => by
  obtain ⟨v, rfl, r1⟩ := one_of r
  obtain ⟨a, ws, rfl, ha, r2⟩ := r1.lst e
  exact ⟨a, ws, rfl, .inl ⟨SqL.of ha, fun p hp => q (.ref p) _ _ (.alloc e hp) ⟨p, ws, rfl, upd_same, RepL.mono (Ex.new (e.back hp)) _ _ r2⟩⟩⟩
/-! ### isinstance -/
def tyD : D → Option String
  | .non => some "NoneType" | .bl _ => some "bool" | .int _ => some "int" | .str _ => some "str" | .lst _ => some "list" | .tup _ => some "tuple" | _ => none
theorem tyX_of {G H : Hp} {d : D} {v : V} {t : String} (e : Ex G H) (h : tyD d = some t) (r : RepB K G H d v) : TyX K H v (.type t) := by
  cases d with
  | non => cases r.non; cases h; exact .base .non
  | bl b => cases r.bl; cases h; exact .base (.bl b)
  | int b => cases r.int; cases h; exact .base (.int b)
  | str b => cases r.str; cases h; exact .base (.str b)
  | lst l => obtain ⟨a, vs, rfl, ha, _⟩ := r.lst e; cases h; exact .base (.lst ha)
  | tup l => obtain ⟨a, vs, rfl, ha, _⟩ := r.tup e; cases h; exact .base (.tup ha)
  | _ => cases h
/-- isinstance(x, T), T a built-in type -/
theorem ev_isi {t T : String} {b : Bool} (h : EvB K ρ te d) (ht : tyD d = some t) (hk : PySem.W.kitOne K (.type t) (.type T) = some b) : EvD K ρ (tCB (rIsi K) (tCons te (tCons (tC (.ty T)) tNil))) (.bl b) := fun G0 H0 G σ H S Q q =>
  h G0 H0 G σ H S _ fun v G1 H1 x r => ⟨v, .ty T, .type t, .type T, b, rfl, .ty T, tyX_of x.s ht r, hk, q _ G1 H1 x rfl⟩
/-! ### methods on own lists -/
abbrev tApp (K : PySem.W.Frag) (i : Nat) (te : TE) : TS := tDrop (tBM K "list" rAppend (tVar i) (tCons te tNil))
theorem sv_app {i : Nat} {l : List D} (e : ρ[i]? = some (.ow (.lst l))) (h : EvD K ρ te d) (hl : l.length < 16777216) (q : Δ.nx (ρ.set i (.ow (.lst (l ++ [d]))))) : SvD K E ρ (tDrop (tBM K "list" rAppend (tVar i) (tCons te tNil))) Δ := fun G0 H0 G σ H N S M => by
  obtain ⟨v, e3, p, o, rfl, h0, hg, hh, ho⟩ := S.get e
  cases o with
  | lst vs =>
    refine ⟨.ref p, e3, .inl ⟨rfl, vs, SqL.of hh⟩, h G0 H0 G σ H S _ fun u G1 H1 x r => ?_⟩
    refine ⟨p, vs, u, rfl, rfl, x.h _ _ hh, by rw [RepL.len ho, sizeLine_eq]; exact hl, ?_⟩
    exact M.nx _ G1 σ _ x.g ((S.ext x).mut (d' := .lst (l ++ [d])) e e3 (o := .lst (vs ++ [u])) ((RepL.mono x.g _ _ ho).append (.one r))) q
  | _ => exact ho.elim
theorem sv_ext {i : Nat} {l m : List D} (e : ρ[i]? = some (.ow (.lst l))) (h : EvD K ρ te (.lst m)) (hl : l.length + m.length ≤ 16777216) (q : Δ.nx (ρ.set i (.ow (.lst (l ++ m))))) : SvD K E ρ (tDrop (tBM K "list" rExtend (tVar i) (tCons te tNil))) Δ := fun G0 H0 G σ H N S M => by
  obtain ⟨v, e3, p, o, rfl, h0, hg, hh, ho⟩ := S.get e
  cases o with
  | lst vs =>
    refine ⟨.ref p, e3, .inl ⟨rfl, vs, SqL.of hh⟩, h G0 H0 G σ H S _ fun u G1 H1 x r => ?_⟩
    obtain ⟨b, ws, rfl, hb, r2⟩ := r
    refine ⟨p, b, vs, ws, rfl, rfl, x.h _ _ hh, x.s _ _ hb, by rw [RepL.len ho, r2.len, sizeLine_eq]; exact hl, ?_⟩
    exact M.nx _ G1 σ _ x.g ((S.ext x).mut (d' := .lst (l ++ m)) e e3 (o := .lst (vs ++ ws)) ((RepL.mono x.g _ _ ho).append r2)) q
  | _ => exact ho.elim
theorem es_pop {i : Nat} {l : List D} (e : ρ[i]? = some (.ow (.lst (l ++ [d])))) : EvS K ρ (tBM0 K "list" rPop (tVar i)) (ρ.set i (.ow (.lst l))) d := fun G0 H0 G σ H S Q q => by
  obtain ⟨v, e3, p, o, rfl, h0, hg, hh, ho⟩ := S.get e
  cases o with
  | lst vs =>
    have hl : vs.length = l.length + 1 := by rw [RepL.len ho]; simp
    have e1 : (l ++ [d])[l.length]? = some d := by simp
    obtain ⟨u, e2, ru⟩ := RepL.get ho e1
    refine ⟨.ref p, e3, .inl ⟨rfl, vs, SqL.of hh⟩, p, vs, u, rfl, rfl, hh, by rw [hl]; exact e2, ?_⟩
    have ht : RepL K G l vs.dropLast := by
      have := RepL.take l.length ho
      rw [List.take_append_of_le_length (Nat.le_refl _), List.take_length] at this
      rw [List.dropLast_eq_take, hl]
      exact this
    exact q u G _ (.refl _) (S.mut e e3 (o := .lst vs.dropLast) ht) ru
  | _ => exact ho.elim
theorem sv_setI {i : Nat} {l : List D} {k : Int} {j : Nat} {ti : TE} (e : ρ[i]? = some (.ow (.lst l))) (h : EvD K ρ te d) (hi : EvD K ρ ti (.int k)) (hj : ixN l.length k = some j) (q : Δ.nx (ρ.set i (.ow (.lst (l.set j d))))) :
    SvD K E ρ (tAsg te (gSub (tVar i) ti rSetL)) Δ := fun G0 H0 G σ H N S M =>
  h G0 H0 G σ H S _ fun u G1 H1 x r => by
    have S1 := S.ext x
    obtain ⟨v, e3, p, o, rfl, h0, hg, hh, ho⟩ := S1.get e
    cases o with
    | lst vs =>
      refine ⟨.ref p, e3, hi G0 H0 G1 σ H1 S1 _ fun w G2 H2 x2 r2 => ?_⟩
      cases (show w = .int k from r2)
      refine ⟨p, vs, k, j, rfl, rfl, x2.h _ _ hh, by rw [RepL.len ho]; exact hj, ?_⟩
      exact M.nx _ G2 σ _ (x.g.trans x2.g) ((S1.ext x2).mut (d' := .lst (l.set j d)) e e3 (o := .lst (vs.set j u)) ((RepL.mono x2.g _ _ ho).set j (Rep.mono x2.g _ _ r))) q
    | _ => exact ho.elim
/-! ### loops -/
/-- what a for walks: n turns, data f i at turn i -/
def ItD (K : PySem.W.Frag) (ρ : List Sl) (wi : TI) (n : Nat) (f : Nat → D) : Prop := ∀ (G0 H0 G : Hp) (σ : L2.St) (H : Hp), St K G0 H0 ρ G σ H → ∀ R : It → Hp → Prop,
  (∀ J G1 H1 (P : Hp → Prop) (Y : Nat → Hp → V → Hp → Prop), Ext G H G1 H1 → Walk J n P Y → (∀ G' H', Ex G1 G' → Ex G' H' → P H') →
    (∀ i H' v H'' G', i < n → Ex G1 G' → Ex G' H' → Y i H' v H'' → ∃ G'', Ext G' H' G'' H'' ∧ Rep K G'' (f i) v) → R J H1) → wi σ H R
theorem it_list {l : List D} (h : EvD K ρ te (.lst l)) : ItD K ρ (iList K te) l.length (fun i => l.getD i .non) := fun G0 H0 G σ H S R q =>
  h G0 H0 G σ H S _ fun v G1 H1 x r => by
    obtain ⟨a, vs, rfl, ha, rr⟩ := r
    refine ⟨a, rfl, ⟨vs, SqL.of (x.s _ _ ha)⟩, q _ G1 H1 (fun H => SqL K H a vs) (YAt vs) x (by rw [← rr.len]; exact walk_list) (fun G' H' e1 e2 => SqL.of (e2 _ _ (e1 _ _ ha))) fun i H' v H'' G' hi e1 e2 y => ?_⟩
    obtain ⟨rfl, y⟩ := y
    refine ⟨G', .refl e2, ?_⟩
    obtain ⟨d, h1, h2⟩ := rr.get' y
    have h3 : l.getD i .non = d := by simp [List.getD, h1]
    dsimp only; rw [h3]
    exact Rep.mono e1 _ _ h2
theorem it_tup {l : List D} (h : EvD K ρ te (.tup l)) : ItD K ρ (iTup K te) l.length (fun i => l.getD i .non) := fun G0 H0 G σ H S R q =>
  h G0 H0 G σ H S _ fun v G1 H1 x r => by
    obtain ⟨a, vs, rfl, ha, rr⟩ := r
    refine ⟨a, rfl, ⟨vs, SqT.of (x.s _ _ ha)⟩, q _ G1 H1 (fun H => SqT K H a vs) (YAt vs) x (by rw [← rr.len]; exact walk_tup) (fun G' H' e1 e2 => SqT.of (e2 _ _ (e1 _ _ ha))) fun i H' v H'' G' hi e1 e2 y => ?_⟩
    obtain ⟨rfl, y⟩ := y
    refine ⟨G', .refl e2, ?_⟩
    obtain ⟨d, h1, h2⟩ := rr.get' y
    have h3 : l.getD i .non = d := by simp [List.getD, h1]
    dsimp only; rw [h3]
    exact Rep.mono e1 _ _ h2
theorem it_range {n : Int} (h : EvD K ρ te (.int n)) (hn : n < 2 ^ 62) (h0 : -(2 ^ 62) ≤ n) : ItD K ρ (iRng1 (tCons te tNil)) n.toNat (fun i => .int (i : Int)) := fun G0 H0 G σ H S R q =>
  h G0 H0 G σ H S _ fun v G1 H1 x r => by
    cases (show v = .int n from r)
    refine ⟨n, rfl, h0, hn, q _ G1 H1 (fun _ => True) _ x walk_range (fun _ _ _ _ => trivial) fun i H' v H'' G' hi e1 e2 y => ?_⟩
    obtain ⟨rfl, rfl⟩ := y
    exact ⟨G', .refl e2, by show V.int _ = V.int _; congr 1; omega⟩
theorem it_range2 {a b : Int} (h : EvD K ρ ta (.int a)) (h' : EvD K ρ tb (.int b)) (hb : -(2 ^ 62) ≤ a ∧ a < 2 ^ 62 ∧ -(2 ^ 62) ≤ b ∧ b < 2 ^ 62) : ItD K ρ (iRng2 (tCons ta (tCons tb tNil))) (b - a).toNat (fun i => .int (a + i)) := fun G0 H0 G σ H S R q =>
  h G0 H0 G σ H S _ fun v G1 H1 x r => h' G0 H0 G1 σ H1 (S.ext x) _ fun w G2 H2 x2 r2 => by
    cases (show v = .int a from r)
    cases (show w = .int b from r2)
    refine ⟨a, b, rfl, hb, q _ G2 H2 (fun _ => True) _ (x.trans x2) walk_range (fun _ _ _ _ => trivial) fun i H' v H'' G' hi e1 e2 y => ?_⟩
    obtain ⟨rfl, rfl⟩ := y
    exact ⟨G', .refl e2, rfl⟩
theorem it_str {s : Str} (h : EvD K ρ te (.str s)) : ItD K ρ (iStr te) s.cps.size (fun i => .str ⟨#[s.cps.getD i 0]⟩) := fun G0 H0 G σ H S R q =>
  h G0 H0 G σ H S _ fun v G1 H1 x r => by
    cases (show v = .str s from r)
    refine ⟨s, rfl, q _ G1 H1 (fun _ => True) _ x walk_str (fun _ _ _ _ => trivial) fun i H' v H'' G' hi e1 e2 y => ?_⟩
    obtain ⟨rfl, c, hc, rfl⟩ := y
    refine ⟨G', .refl e2, ?_⟩
    show V.str _ = V.str _
    congr 3
    rw [Array.getD_eq_getD_getElem?, hc]; rfl
theorem it_enum {l : List D} (h : EvD K ρ te (.lst l)) : ItD K ρ (iEnum K (tCons te tNil)) l.length (fun i => .tup [.int (i : Int), l.getD i .non]) := fun G0 H0 G σ H S R q =>
  h G0 H0 G σ H S _ fun v G1 H1 x r => by
    obtain ⟨a, vs, rfl, ha, rr⟩ := r
    refine ⟨a, vs, rfl, SqL.of (x.s _ _ ha), q _ G1 H1 (fun H => SqL K H a vs) _ x (by rw [← rr.len]; exact walk_enum) (fun G' H' e1 e2 => SqL.of (e2 _ _ (e1 _ _ ha))) fun i H' v H'' G' hi e1 e2 y => ?_⟩
    obtain ⟨T, u, w, rfl, hT, rfl, e3, e4⟩ := y
    cases e3
    refine ⟨upd G' T (.tup [.int (i : Nat), w]), .alloc e2 hT, ?_⟩
    obtain ⟨d, h1, h2⟩ := rr.get' e4
    have h3 : l.getD i .non = d := by simp [List.getD, h1]
    dsimp only; rw [h3]
    exact ⟨T, _, rfl, upd_same, .int (i : Nat), [w], rfl, rfl, w, [], rfl, Rep.mono (e1.trans (Ex.new (e2.back hT))) _ _ h2, rfl⟩
/-- for: I by the turn -/
theorem sv_for {wi : TI} {g : TG} {tb : TS} {n : Nat} {f : Nat → D} (h : ItD K ρ wi n f) (I : Nat → List Sl → Prop) (h0 : I 0 ρ)
    (hs : ∀ i ρ', i < n → I i ρ' → ∃ ρ2, TgD K ρ' g (f i) ρ2 ∧ SvD K E ρ2 tb { Δ with nx := I (i + 1), ct := I (i + 1), bk := Δ.nx }) (hd : ∀ ρ', I n ρ' → Δ.nx ρ') : SvD K E ρ (tFor wi g tb) Δ := fun G0 H0 G σ H N S M =>
  h G0 H0 G σ H S _ fun J G1 H1 P Y x w hP hY => by
    refine for_it w (fun i σ H => ∃ ρ' G', Ex G1 G' ∧ St K G0 H0 ρ' G' σ H ∧ I i ρ') ⟨ρ, G1, .refl _, S.ext x, h0⟩ (fun i σ H _ ⟨ρ', G', e, S', _⟩ => hP G' H e S'.x.s) ?_ ?_
    · rintro i v σ' H' H'' hi ⟨ρ', G', e, S', hI⟩ y
      obtain ⟨G'', x2, r⟩ := hY i H' v H'' G' hi e S'.x.s y
      obtain ⟨ρ2, ht, hb⟩ := hs i ρ' hi hI
      refine ht G0 H0 G'' σ' H'' v (S'.ext x2) r _ fun σ2 S2 => ?_
      have M2 := M.up (x.g.trans (e.trans x2.g))
      exact hb G0 H0 G'' σ2 H'' _ S2 ⟨fun ρ3 G3 σ3 H3 e3 S3 i3 => ⟨ρ3, G3, (e.trans x2.g).trans e3, S3, i3⟩, M2.rt, fun ρ3 G3 σ3 H3 e3 S3 i3 => M2.nx ρ3 G3 σ3 H3 e3 S3 i3, fun ρ3 G3 σ3 H3 e3 S3 i3 => ⟨ρ3, G3, (e.trans x2.g).trans e3, S3, i3⟩, M2.ex⟩
    · rintro σ' H' ⟨ρ', G', e, S', hI⟩
      exact M.nx ρ' G' σ' H' (x.g.trans e) S' (hd ρ' hI)
/-- while: I, m falls -/
theorem sv_while {c : TT} {tb : TS} (I : Nat → List Sl → Prop) (m : Nat) (h0 : I m ρ)
    (hs : ∀ m ρ', I m ρ' → ∃ b, EvT K ρ' c b ∧ (b = true → SvD K E ρ' tb { Δ with nx := fun ρ'' => ∃ m', m' < m ∧ I m' ρ'', ct := fun ρ'' => ∃ m', m' < m ∧ I m' ρ'', bk := Δ.nx }) ∧ (b = false → Δ.nx ρ')) : SvD K E ρ (tWhile c tb) Δ := fun G0 H0 G σ H N S M => by
  refine ⟨fun m σ H => ∃ ρ' G', Ex G G' ∧ St K G0 H0 ρ' G' σ H ∧ I m ρ', ⟨m, ρ, G, .refl _, S, h0⟩, ?_⟩
  rintro m σ' H' ⟨ρ', G', e, S', hI⟩
  obtain ⟨b, ht, h1, h2⟩ := hs m ρ' hI
  refine ht G0 H0 G' σ' H' S' _ fun G2 H2 x => ?_
  have M2 := M.up (e.trans x.g)
  cases b with
  | true =>
    refine iteT ⟨fun σ3 H3 => ∃ m', m' < m ∧ ∃ ρ3 G3, Ex G G3 ∧ St K G0 H0 ρ3 G3 σ3 H3 ∧ I m' ρ3, fun σ3 H3 z => z, ?_⟩
    exact h1 rfl G0 H0 G2 σ' H2 _ (S'.ext x) ⟨fun ρ3 G3 σ3 H3 e3 S3 ⟨m', l, i3⟩ => ⟨m', l, ρ3, G3, (e.trans x.g).trans e3, S3, i3⟩, M2.rt, M2.nx, fun ρ3 G3 σ3 H3 e3 S3 ⟨m', l, i3⟩ => ⟨m', l, ρ3, G3, (e.trans x.g).trans e3, S3, i3⟩, M2.ex⟩
  | false => exact iteF (M2.nx ρ' G2 σ' H2 (.refl _) (S'.ext x) (h2 rfl))
/-! ### comprehensions -/
def wipeD (ρ : List Sl) : List Nat → List Sl
  | [] => ρ
  | v :: vs => (wipeD ρ vs).set v .no
theorem St.wipe {G0 H0 G H : Hp} {σ : L2.St} (S : St K G0 H0 ρ G σ H) : ∀ vs : List Nat, St K G0 H0 (wipeD ρ vs) G (L2.wipe σ vs) H
  | [] => S
  | v :: vs => (St.wipe S vs).set_no v
/-- a target that stores to the block's own slots alone -/
def TgW (K : PySem.W.Frag) (vs : List Nat) (ρ : List Sl) (g : TG) (d : D) (ρ' : List Sl) : Prop := ∀ (G0 H0 G : Hp) (σ : L2.St) (H : Hp) (v : V), St K G0 H0 ρ G σ H → Rep K G d v → ∀ Q : L2.St → Hp → Prop, (∀ σ', St K G0 H0 ρ' G σ' H → L2.wipe σ' vs = L2.wipe σ vs → Q σ' H) → g v σ H Q
def TgsW (K : PySem.W.Frag) (vs : List Nat) (ρ : List Sl) (g : TGs) (ds : List D) (ρ' : List Sl) : Prop := ∀ (G0 H0 G : Hp) (σ : L2.St) (H : Hp) (us : List V), St K G0 H0 ρ G σ H → RepL K G ds us → ∀ Q : L2.St → Hp → Prop, (∀ σ', St K G0 H0 ρ' G σ' H → L2.wipe σ' vs = L2.wipe σ vs → Q σ' H) → g us σ H Q
theorem wipe_set {σ : L2.St} {i : Nat} {v : Option V} : ∀ {vs : List Nat}, i ∈ vs → L2.wipe (σ.set i v) vs = L2.wipe σ vs
  | [], h => by cases h
  | j :: vs, h => by
    unfold L2.wipe
    by_cases z : i ∈ vs
    · rw [wipe_set z]
    · have : i = j := by rcases List.mem_cons.mp h with q | q; exact q; exact absurd q z
      subst this
      have comm : ∀ (ws : List Nat), i ∉ ws → L2.wipe (σ.set i v) ws = (L2.wipe σ ws).set i v := fun ws => by
        induction ws with
        | nil => intro _; rfl
        | cons w ws ih =>
          intro hw
          unfold L2.wipe
          rw [ih fun q => hw (List.mem_cons_of_mem _ q)]
          exact List.set_comm _ _ fun q => hw (q ▸ List.mem_cons_self)
      rw [comm vs z, List.set_set]
theorem wipe_wipe {σ : L2.St} (vs : List Nat) : ∀ {ws : List Nat}, (∀ w ∈ ws, w ∈ vs) → L2.wipe (L2.wipe σ ws) vs = L2.wipe σ vs
  | [], _ => rfl
  | w :: ws, h => by
    show L2.wipe ((L2.wipe σ ws).set w none) vs = _
    rw [wipe_set (h w List.mem_cons_self)]
    exact wipe_wipe vs fun z hz => h z (List.mem_cons_of_mem _ hz)
theorem tw_name {vs : List Nat} {i : Nat} (h : i ∈ vs := by decide) : TgW K vs ρ (gName i) d (ρ.set i (.im d)) := fun G0 H0 G σ H v S r Q q => q _ (S.set_im r i) (wipe_set h)
theorem tws_nil {vs : List Nat} : TgsW K vs ρ gNil [] ρ := fun G0 H0 G σ H us S r Q q => ⟨r, q _ S rfl⟩
theorem tws_cons {vs : List Nat} {g : TG} {gs : TGs} {ρ1 ρ2 : List Sl} {ds : List D} (h : TgW K vs ρ g d ρ1) (h2 : TgsW K vs ρ1 gs ds ρ2) : TgsW K vs ρ (gCons g gs) (d :: ds) ρ2 := fun G0 H0 G σ H us S r Q q => by
  obtain ⟨v, rs, e, r1, r2⟩ := r
  exact ⟨v, rs, e, h G0 H0 G σ H v S r1 _ fun σ' S' w => h2 G0 H0 G σ' H rs S' r2 Q fun σ'' S'' w' => q σ'' S'' (w'.trans w)⟩
theorem tw_tup {vs : List Nat} {gs : TGs} {n : Nat} {ρ' : List Sl} {ds : List D} (h : TgsW K vs ρ gs ds ρ') (hn : ds.length = n := by rfl) : TgW K vs ρ (gTup K n gs) (.tup ds) ρ' := fun G0 H0 G σ H v S r Q q => by
  obtain ⟨a, us, rfl, h1, h2⟩ := r
  exact ⟨a, us, rfl, SqT.of (S.x.s _ _ h1), by rw [h2.len]; exact hn, h G0 H0 G σ H us S h2 Q q⟩
theorem et_yes : EvT K ρ tYes true := fun G0 H0 G σ H S Q q => q G H (.refl S.x.s)
/-- what the first n turns give -/
def outN (b : Nat → Bool) (e : Nat → D) : Nat → List D
  | 0 => []
  | n + 1 => if b n = true then outN b e n ++ [e n] else outN b e n
theorem outN_len (b : Nat → Bool) (e : Nat → D) : ∀ n, (outN b e n).length ≤ n
  | 0 => Nat.le_refl _
  | n + 1 => by
    have := outN_len b e n
    unfold outN
    split
    · rw [List.length_append]; simp; omega
    · omega
theorem ef_lc {wi : TI} {g : TG} {tt : TT} {vs : List Nat} {n : Nat} {f : Nat → D} (b : Nat → Bool) (e : Nat → D) (h : ItD K ρ wi n f) (hn : n ≤ 16777216)
    (hs : ∀ i, i < n → ∃ ρ2, TgW K vs (wipeD ρ vs) g (f i) ρ2 ∧ EvT K ρ2 tt (b i) ∧ (b i = true → EvD K ρ2 te (e i))) : EvF K ρ (tLc wi g tt te vs) (.lst (outN b e n)) := fun G0 H0 G σ H S Q q =>
  h G0 H0 G σ H S _ fun J G1 H1 P Y x w hP hY => fun Dl hD => by
    have S1 := S.ext x
    refine lc_it w (fun i H => ∃ G' us, Ext G1 H1 G' H ∧ G' Dl = none ∧ H Dl = some (.lst us) ∧ RepL K G' (outN b e i) us) ⟨G1, [], .hid S1.x.s hD, S1.x.s.back hD, upd_same, rfl⟩ (fun i H _ ⟨G', us, x1, _⟩ => hP G' H x1.g x1.s) ?_ ?_
    · rintro i v H' H'' hi ⟨G', us, x1, gd, hd, rr⟩ y
      obtain ⟨G'', x2, rv⟩ := hY i H' v H'' G' hi x1.g x1.s y
      obtain ⟨ρ2, ht, hb, he⟩ := hs i hi
      have S2 := ((S1.ext x1).ext x2).wipe vs
      refine ht G0 H0 G'' _ H'' v S2 rv _ fun σ2 S3 hw => ⟨hw.trans (wipe_wipe vs fun _ z => z), ?_⟩
      have nn : ∀ {Ga Ha Gb Hb : Hp}, Ext Ga Ha Gb Hb → Ga Dl = none → (∃ o, Ha Dl = some o) → Gb Dl = none := fun {Ga Ha Gb Hb} z h1 h2 => by
        obtain ⟨o, h2⟩ := h2
        rw [z.n Dl (by rw [h2]; simp)]; exact h1
      have g2 : G'' Dl = none := nn x2 gd ⟨_, hd⟩
      have d2 := x2.h _ _ hd
      refine hb G0 H0 G'' σ2 H'' S3 _ fun G3 H3 x3 => ?_
      have g3 : G3 Dl = none := nn x3 g2 ⟨_, d2⟩
      have d3 := x3.h _ _ d2
      by_cases hbi : b i = true
      · rw [if_pos hbi]
        refine he hbi G0 H0 G3 σ2 H3 (S3.ext x3) _ fun y G4 H4 x4 ry => ?_
        have g4 : G4 Dl = none := nn x4 g3 ⟨_, d3⟩
        have d4 := x4.h _ _ d3
        have xx := ((x1.trans x2).trans x3).trans x4
        refine ⟨us, d4, ?_, G4, us ++ [y], xx.mut hD g4, g4, upd_same, ?_⟩
        · rw [rr.len, sizeLine_eq]
          have := outN_len b e i
          omega
        · unfold outN
          rw [if_pos hbi]
          exact (RepL.mono ((x2.g.trans x3.g).trans x4.g) _ _ rr).append (.one ry)
      · rw [if_neg hbi]
        refine ⟨G3, us, (x1.trans x2).trans x3, g3, d3, ?_⟩
        unfold outN
        rw [if_neg hbi]
        exact RepL.mono (x2.g.trans x3.g) _ _ rr
    · rintro H' ⟨G', us, x1, gd, hd, rr⟩
      exact q Dl (.lst us) G' H' (x.trans x1) (x.h.back hD) gd hd rr
end
end PL

set_option Elab.async false
set_option linter.all false
set_option maxRecDepth 100000
set_option maxHeartbeats 1000000
/-! DL6: names for the readings that the generator prints; calls of the module's defs; dicts on data; raise. -/
namespace PL
open PySem PySem.Spec PyProof.Rows L2

abbrev qSubI : R2 := rI0 fun i j => .int (i - j)
abbrev qAddI : R2 := rI0 fun i j => .int (i + j)
abbrev qModI : R2 := rI (fun _ j => 0 < j) fun i j => .int (i % j)
abbrev qFdvI : R2 := rI CDiv fun i j => .int (i / j)
abbrev qPowI : R2 := rI CPow fun i j => .int (i ^ j.toNat)
abbrev qLtI : R2 := rI0 fun i j => .bl (decide (i < j))
abbrev qLeI : R2 := rI0 fun i j => .bl (decide (i ≤ j))
abbrev qGtI : R2 := rI0 fun i j => .bl (decide (j < i))
abbrev qGeI : R2 := rI0 fun i j => .bl (decide (j ≤ i))
abbrev qNegI : V → Hp → VK → Prop := rU fun i => .int (-i)
abbrev qInsert : V → List V → Hp → VK → Prop := fun x vs H Q => ∃ (l : Addr) (xs : List V) (i : Int) (y : V), x = .ref l ∧ vs = [.int i, y] ∧ H l = some (.lst xs) ∧ xs.length < sizeLine ∧ 0 ≤ i ∧ i < 2 ^ 63 ∧ Q .non (upd H l (.lst (xs.take i.toNat ++ [y] ++ xs.drop i.toNat)))
theorem b_len : bootBuiltins "len" = some (.builtin "len") := by decide +kernel
theorem b_int : bootBuiltins "int" = some (.type "int") := by decide +kernel
theorem b_str : bootBuiltins "str" = some (.type "str") := by decide +kernel
theorem b_bool : bootBuiltins "bool" = some (.type "bool") := by decide +kernel
theorem b_min : bootBuiltins "min" = some (.builtin "min") := by decide +kernel
theorem b_max : bootBuiltins "max" = some (.builtin "max") := by decide +kernel
theorem b_list : bootBuiltins "list" = some (.type "list") := by decide +kernel
theorem b_tuple : bootBuiltins "tuple" = some (.type "tuple") := by decide +kernel
theorem b_isinstance : bootBuiltins "isinstance" = some (.builtin "isinstance") := by decide +kernel
theorem b_sum : bootBuiltins "sum" = some (.builtin "sum") := by decide +kernel
theorem b_ValueError : bootBuiltins "ValueError" = some (.type "ValueError") := by decide +kernel

/-! ### calls of the module's defs -/
structure GFn (P : Program) (w : World) (K : PySem.W.Frag) (mg : Str → Option Value) (base : Heap) (CX : CXT) (k : Nat) (x : Str) (ps : List Str) (ds : List Value) (sp : Sp) : Prop where
  ex : ∃ f fd, FnOk P w K mg base CX k f fd ps sp ∧ mg x = some (.ref f) ∧ PySem.W.keepIn K (.ref f) = true ∧ Binds K fd ps ds
section
variable {X : Cx} {CX : CXT} {k : Nat} {x : Str} {ps : List Str} {ds : List Value} {dvs : List V} {sp : Sp} {E : XK} {e : Expr} {es : List Expr} {t : TA} {p pos : Pos}
theorem pe_gcall (C : GFn X.prog X.w X.K X.mg X.base CX k x ps ds sp) (hr : Room k X.A) (hd : Vals dvs ds) (hx : Passes CX X E) (ha : PA X (e :: es) t) (hg : Gl X x := by rfl) (hdb : (x == ("__debug__" : Str)) = false := by decide)
    (he : starEach (e :: es) X.env = (false, eval e X.env) :: starEach es X.env := by rfl) (hpl : (backTo pos (starEach es X.env)).any (·.1) = false := by rfl) : PE X (.Call (.Name x p) (e :: es) [] pos) (tCall sp dvs E t) := by
  obtain ⟨f, fd, F, hm, hk, hb⟩ := C.ex
  first
    | exact pe_call F hr hg hm hk hb hd hx ha hdb he hpl
    | exact pe_call F hr hg hm hk hb hd hx ha
theorem vals_int1 {i : Int} {t : Tok} : Vals [V.int i] [Value.int i t] := .cons ⟨t, rfl⟩ .nil
end
/-- what a class's method m promises: C its class -/
structure MFn (P : Program) (w : World) (K : PySem.W.Frag) (mg : Str → Option Value) (base : Heap) (CX : CXT) (k : Nat) (C : Addr) (m : Str) (ps : List Str) (dvs : List V) (sp : Sp) : Prop where
  ex : ∃ f fd ds, FnOk P w K mg base CX k f fd ps sp ∧ Meth K C m f ∧ Binds K fd ps ds ∧ Vals dvs ds

section
variable {K : PySem.W.Frag} {E : XK} {G G1 H G0 H0 : Hp} {ρ : List Sl} {Δ : De} {N : Ends} {t u : TS} {te ta tb tc : TE} {d d1 d2 d3 : D}
/-! ### chains, minus -/
theorem ev_chain {r r' : R2} {b b' : Bool} (ha : EvD K ρ ta d1) (hb : EvD K ρ tb d2) (hc : b = true → EvD K ρ tc d3) (h1 : OpD K r d1 d2 (.bl b)) (h2 : b = true → OpD K r' d2 d3 (.bl b')) : EvD K ρ (tChain r r' ta tb tc) (.bl (b && b')) := fun G0 H0 G σ H S Q q =>
  ha G0 H0 G σ H S _ fun v G1 H1 x1 r1 => hb G0 H0 G1 σ H1 (S.ext x1) _ fun w G2 H2 x2 r2 => h1 G2 H2 v w x2.s (.inl (Rep.mono x2.g _ _ r1)) (.inl r2) _ fun z G3 H3 x3 r3 => by
    refine ⟨b, r3, ?_⟩
    cases b with
    | false => exact iteF (q _ G3 H3 ((x1.trans x2).trans x3) rfl)
    | true =>
      refine iteT (hc rfl G0 H0 G3 σ H3 (((S.ext x1).ext x2).ext x3) _ fun y G4 H4 x4 r4 => ?_)
      exact h2 rfl G4 H4 w y x4.s (.inl (Rep.mono (x3.g.trans x4.g) _ _ r2)) (.inl r4) Q fun z G5 H5 x5 r5 => q z G5 H5 ((((x1.trans x2).trans x3).trans x4).trans x5) r5
theorem ev_neg {i : Int} (h : EvD K ρ te (.int i)) : EvD K ρ (tUn qNegI te) (.int (-i)) := fun G0 H0 G σ H S Q q => h G0 H0 G σ H S _ fun v G1 H1 x r => ⟨i, r, q _ G1 H1 x rfl⟩
theorem om_mod {i j : Int} (h : 0 < j) : OpD K qModI (.int i) (.int j) (.int (i % j)) := od_I h
theorem om_fdv {i j : Int} (h : 0 < j) (h2 : j < 1073741824) : OpD K qFdvI (.int i) (.int j) (.int (i / j)) := od_I ⟨h, h2⟩
theorem om_pow {i j : Int} (h : 0 ≤ j) (h1 : j ≤ 1000000) (h2 : i.natAbs < 2 ^ 64) : OpD K qPowI (.int i) (.int j) (.int (i ^ j.toNat)) := od_I ⟨h, h1, h2⟩
theorem om_sub {i j : Int} : OpD K qSubI (.int i) (.int j) (.int (i - j)) := od_I0
theorem om_lt {i j : Int} : OpD K qLtI (.int i) (.int j) (.bl (decide (i < j))) := od_B0
theorem om_le {i j : Int} : OpD K qLeI (.int i) (.int j) (.bl (decide (i ≤ j))) := od_B0
theorem om_gt {i j : Int} : OpD K qGtI (.int i) (.int j) (.bl (decide (j < i))) := od_B0
theorem om_ge {i j : Int} : OpD K qGeI (.int i) (.int j) (.bl (decide (j ≤ i))) := od_B0
theorem om_mulL {i j : Int} (h : -(2 ^ 64) < i) (h2 : i < 2 ^ 64) : OpD K rMulU (.int i) (.int j) (.int (i * j)) := om_int (.inl ⟨h, h2⟩)
theorem om_mulR {i j : Int} (h : -(2 ^ 64) < j) (h2 : j < 2 ^ 64) : OpD K rMulU (.int i) (.int j) (.int (i * j)) := om_int (.inr ⟨h, h2⟩)
/-! ### is None -/
theorem ois_non {d : D} : OpD K rIsN d .non (.bl (decide (d = .non))) := fun G H v1 v2 e h1 h2 Q q => by
  cases h2.non
  refine ⟨rfl, q _ G H (.refl e) ?_⟩
  show V.bl _ = V.bl _
  congr 1
  cases d with
  | non => cases h1.non; simp
  | bl b => cases h1.bl; simp
  | int b => cases h1.int; simp
  | str b => cases h1.str; simp
  | lst l => obtain ⟨a, _, rfl, _⟩ := h1.lst e; simp
  | tup l => obtain ⟨a, _, rfl, _⟩ := h1.tup e; simp
  | dk ks l => obtain ⟨a, _, rfl, _⟩ := h1.dk e; simp
  | dt ks l => obtain ⟨a, _, rfl, _⟩ := h1.dt e; simp
  | ins C ns l => obtain ⟨a, _, _, rfl, _⟩ := h1.ins e; simp
  | scr l => obtain ⟨a, rfl, _⟩ := h1.scr e; simp
theorem oisn_non {d : D} : OpD K rNotN d .non (.bl (decide (d ≠ .non))) := fun G H v1 v2 e h1 h2 Q q => by
  cases h2.non
  refine ⟨rfl, q _ G H (.refl e) ?_⟩
  show V.bl _ = V.bl _
  congr 1
  cases d with
  | non => cases h1.non; simp
  | bl b => cases h1.bl; simp
  | int b => cases h1.int; simp
  | str b => cases h1.str; simp
  | lst l => obtain ⟨a, _, rfl, _⟩ := h1.lst e; simp
  | tup l => obtain ⟨a, _, rfl, _⟩ := h1.tup e; simp
  | dk ks l => obtain ⟨a, _, rfl, _⟩ := h1.dk e; simp
  | dt ks l => obtain ⟨a, _, rfl, _⟩ := h1.dt e; simp
  | ins C ns l => obtain ⟨a, _, _, rfl, _⟩ := h1.ins e; simp
  | scr l => obtain ⟨a, rfl, _⟩ := h1.scr e; simp
/-! ### raise -/
theorem sv_raise {C : Addr} {f : Str} (h : EvD K ρ te d) (q : Δ.ex C [f] [d]) : SvD K E ρ (tRaiseF C f E (tCons te tNil)) Δ := fun G0 H0 G σ H N S M =>
  h G0 H0 G σ H S _ fun v G1 H1 x r => ⟨v, rfl, fun dd hd =>
    M.ex C [f] [d] dd [v] G1 (upd H1 dd (.xd [(f, v)])) x.g (S.x.trans (x.trans (.hid x.s hd))) (S.x.h.back (x.h.back hd)) upd_same rfl (RepL.one (Rep.mono (x.s.trans (Ex.new hd)) _ _ r)) q⟩
/-! ### dicts -/
def kD : Key → D
  | .inl i => .int i
  | .inr s => .str s
theorem rep_kD {k : Key} {v : V} (h : Rep K G (kD k) v) : v = kV k := by
  cases k <;> exact h
theorem repL_kD : ∀ {k : List Key} {vs : List V}, RepL K G (k.map kD) vs → vs = k.map kV
  | [], _, h => h
  | x :: k, _, h => by
    obtain ⟨v, r, rfl, h1, h2⟩ := h
    rw [rep_kD h1, repL_kD h2]; rfl
section
variable {κ : Type} [DecidableEq κ]
def valD (ks : List κ) (l : List D) (k : κ) : Option D := ((ks.zip l).find? fun kv => decide (kv.1 = k)).map (·.2)
theorem valD_cons {a : κ} {ks : List κ} {x : D} {l : List D} {k : κ} : valD (a :: ks) (x :: l) k = if a = k then some x else valD ks l k := by
  unfold valD
  rw [List.zip_cons_cons, List.find?_cons]
  by_cases h : a = k
  · simp [h]
  · simp [h]
theorem valD_rep {G : Hp} : ∀ {ks : List κ} {l : List D} {vs : List V} {k : κ}, RepL K G l vs → (match valD ks l k with | some d => ∃ v, valV (ks.zip vs) k = some v ∧ Rep K G d v | none => valV (ks.zip vs) k = none)
  | [], l, vs, k, _ => by simp [valD, valV]
  | a :: ks, [], vs, k, h => by cases (show vs = [] from h); simp [valD, valV]
  | a :: ks, x :: l, vs, k, h => by
    obtain ⟨v, r, rfl, h1, h2⟩ := h
    rw [valD_cons, List.zip_cons_cons]
    by_cases e : a = k
    · rw [if_pos e]
      exact ⟨v, valV_pos (p := (a, v)) e, h1⟩
    · rw [if_neg e]
      have := valD_rep (ks := ks) (k := k) h2
      rw [valV_neg (p := (a, v)) e]
      exact this
/-- d[k] = x: the keys, the values -/
def putKs (ks : List κ) (k : κ) : List κ := if k ∈ ks then ks else ks ++ [k]
def putVs {α : Type} (ks : List κ) (l : List α) (k : κ) (x : α) : List α := if k ∈ ks then (ks.zip l).map fun p => if p.1 = k then x else p.2 else l ++ [x]
theorem any_mem {ks : List κ} {vs : List V} {k : κ} (hl : vs.length = ks.length) : ((ks.zip vs).any fun kv => decide (kv.1 = k)) = decide (k ∈ ks) := by
  induction ks generalizing vs with
  | nil => simp
  | cons a ks ih =>
    cases vs with
    | nil => simp at hl
    | cons v vs =>
      rw [List.zip_cons_cons, List.any_cons, ih (by simpa using hl)]
      by_cases e : a = k
      · subst e; simp
      · have : ¬ k = a := fun z => e z.symm
        simp [e, this]
theorem putK_zip {ks : List κ} {vs : List V} {k : κ} {v : V} (hl : vs.length = ks.length) : putK (ks.zip vs) k v = (putKs ks k).zip (putVs ks vs k v) ∧ (putVs ks vs k v).length = (putKs ks k).length := by
  unfold putK putKs putVs
  rw [any_mem hl]
  by_cases h : k ∈ ks
  · rw [if_pos (decide_eq_true h), if_pos h, if_pos h]
    refine ⟨?_, by simp [hl]⟩
    clear h
    induction ks generalizing vs with
    | nil => simp
    | cons a ks ih =>
      cases vs with
      | nil => simp at hl
      | cons w vs =>
        rw [List.zip_cons_cons, List.map_cons, List.map_cons, List.zip_cons_cons, ih (by simpa using hl)]
        by_cases e : a = k
        · simp [e]
        · simp [e]
  · rw [if_neg (by simpa using h), if_neg h, if_neg h]
    refine ⟨?_, by simp [hl]⟩
    rw [List.zip_append hl.symm]; rfl
theorem putVs_rep {G : Hp} {ks : List κ} {l : List D} {vs : List V} {k : κ} {d : D} {v : V} (h : RepL K G l vs) (hd : Rep K G d v) : RepL K G (putVs ks l k d) (putVs ks vs k v) := by
  unfold putVs
  by_cases hk : k ∈ ks
  · rw [if_pos hk, if_pos hk]
    clear hk
    induction ks generalizing l vs with
    | nil => exact rfl
    | cons a ks ih =>
      cases l with
      | nil => cases (show vs = [] from h); exact rfl
      | cons x l =>
        obtain ⟨w, r, rfl, h1, h2⟩ := h
        rw [List.zip_cons_cons, List.zip_cons_cons, List.map_cons, List.map_cons]
        refine ⟨_, _, rfl, ?_, ih h2⟩
        by_cases e : a = k
        · simp only [e, if_true]; exact hd
        · simp only [e, if_false]; exact h1
  · rw [if_neg hk, if_neg hk]
    exact h.append (.one hd)
end
def OptR (K : PySem.W.Frag) (G : Hp) : Option D → Option V → Prop
  | some d, o => ∃ v, o = some v ∧ Rep K G d v
  | none, o => o = none
theorem get_t {G H : Hp} {ks : List (List Key)} {l : List D} {k : List Key} {v1 v2 : V} (e : Ex G H) (h1 : RepB K G H (.dt ks l) v1) (h2 : RepB K G H (.tup (k.map kD)) v2) :
    ∃ a o, v1 = .ref a ∧ DGet H a v2 o ∧ OptR K G (valD ks l k) o ∧ IsD H a := by
  obtain ⟨a, vs, rfl, ha, hl, r⟩ := h1.dt e
  obtain ⟨b, us, rfl, hb, r2⟩ := h2.tup e
  rw [repL_kD r2] at hb
  refine ⟨a, _, rfl, DGet.t ha hb, ?_, .inr ⟨_, .inl ha⟩⟩
  have := valD_rep (ks := ks) (k := k) r
  cases hv : valD ks l k with
  | some d => rw [hv] at this; exact this
  | none => rw [hv] at this; exact this
theorem get_k {G H : Hp} {ks : List Key} {l : List D} {k : Key} {v1 v2 : V} (e : Ex G H) (h1 : RepB K G H (.dk ks l) v1) (h2 : RepB K G H (kD k) v2) :
    ∃ a o, v1 = .ref a ∧ DGet H a v2 o ∧ OptR K G (valD ks l k) o ∧ IsD H a := by
  obtain ⟨a, vs, rfl, ha, hl, r⟩ := h1.dk e
  have e2 : v2 = kV k := by
    cases k with
    | inl i => exact h2.int
    | inr s => exact h2.str
  subst e2
  refine ⟨a, _, rfl, DGet.k ha, ?_, .inl ⟨_, .inl ha⟩⟩
  have := valD_rep (ks := ks) (k := k) r
  cases hv : valD ks l k with
  | some d => rw [hv] at this; exact this
  | none => rw [hv] at this; exact this
/-- a dict and a key: tuple keys, or ints and texts -/
inductive DK : D → D → Option D → Prop where
  | t (ks : List (List Key)) (l : List D) (k : List Key) : DK (.dt ks l) (.tup (k.map kD)) (valD ks l k)
  | k (ks : List Key) (l : List D) (k : Key) : DK (.dk ks l) (kD k) (valD ks l k)
theorem get_any {G H : Hp} {dd kd : D} {o : Option D} {v1 v2 : V} (c : DK dd kd o) (e : Ex G H) (h1 : RepB K G H dd v1) (h2 : RepB K G H kd v2) :
    ∃ a o', v1 = .ref a ∧ DGet H a v2 o' ∧ OptR K G o o' ∧ IsD H a := by
  cases c with
  | t ks l k => exact get_t e h1 h2
  | k ks l k => exact get_k e h1 h2
theorem ev_get2 {td ty tx : TE} {dd kd dx : D} {o : Option D} (hd : EvB K ρ td dd) (hk : EvD K ρ ty kd) (hx : EvD K ρ tx dx) (c : DK dd kd o) : EvD K ρ (tDGet2 td ty tx) (o.getD dx) := fun G0 H0 G σ H S Q q =>
  hd G0 H0 G σ H S _ fun v G1 H1 x1 r1 => by
    have isd : ∃ a, v = .ref a ∧ IsD H1 a := by
      cases c with
      | t ks l k => obtain ⟨a, vs, rfl, ha, _⟩ := r1.dt x1.s; exact ⟨a, rfl, .inr ⟨_, .inl ha⟩⟩
      | k ks l k => obtain ⟨a, vs, rfl, ha, _⟩ := r1.dk x1.s; exact ⟨a, rfl, .inl ⟨_, .inl ha⟩⟩
    obtain ⟨a, rfl, hi⟩ := isd
    refine ⟨a, rfl, hi, hk G0 H0 G1 σ H1 (S.ext x1) _ fun w G2 H2 x2 r2 => hx G0 H0 G2 σ H2 ((S.ext x1).ext x2) _ fun z G3 H3 x3 r3 => ?_⟩
    obtain ⟨a', o', e1, hg, ho, _⟩ := get_any c x3.s (r1.ext (x2.trans x3)) (.inl (Rep.mono x3.g _ _ r2))
    cases e1
    refine ⟨o', hg, ?_⟩
    cases o with
    | some d => obtain ⟨u, rfl, ru⟩ := ho; exact q u G3 H3 ((x1.trans x2).trans x3) ru
    | none => subst ho; exact q z G3 H3 ((x1.trans x2).trans x3) r3
theorem ev_dget {td ty : TE} {dd kd : D} (hd : EvB K ρ td dd) (hk : EvD K ρ ty kd) (c : DK dd kd (some d)) : EvD K ρ (tDGet td ty) d := fun G0 H0 G σ H S Q q =>
  hd G0 H0 G σ H S _ fun v G1 H1 x1 r1 => hk G0 H0 G1 σ H1 (S.ext x1) _ fun w G2 H2 x2 r2 => by
    obtain ⟨a, o', rfl, hg, ⟨u, rfl, ru⟩, _⟩ := get_any c x2.s (r1.ext x2) (.inl r2)
    exact ⟨a, u, rfl, hg, q u G2 H2 (x1.trans x2) ru⟩
theorem ev_din {td ty : TE} {dd kd : D} {o : Option D} (hk : EvD K ρ ty kd) (hd : EvB K ρ td dd) (c : DK dd kd o) : EvD K ρ (tDIn ty td) (.bl o.isSome) := fun G0 H0 G σ H S Q q =>
  hk G0 H0 G σ H S _ fun w G1 H1 x1 r1 => hd G0 H0 G1 σ H1 (S.ext x1) _ fun v G2 H2 x2 r2 => by
    obtain ⟨a, o', rfl, hg, ho, _⟩ := get_any c x2.s r2 (.inl (Rep.mono x2.g _ _ r1))
    refine ⟨a, o', rfl, hg, q _ G2 H2 (x1.trans x2) ?_⟩
    cases o with
    | some d => obtain ⟨u, rfl, _⟩ := ho; rfl
    | none => subst ho; rfl
theorem ev_dnin {td ty : TE} {dd kd : D} {o : Option D} (hk : EvD K ρ ty kd) (hd : EvB K ρ td dd) (c : DK dd kd o) : EvD K ρ (tDNotIn ty td) (.bl (!o.isSome)) := fun G0 H0 G σ H S Q q =>
  hk G0 H0 G σ H S _ fun w G1 H1 x1 r1 => hd G0 H0 G1 σ H1 (S.ext x1) _ fun v G2 H2 x2 r2 => by
    obtain ⟨a, o', rfl, hg, ho, _⟩ := get_any c x2.s r2 (.inl (Rep.mono x2.g _ _ r1))
    refine ⟨a, o', rfl, hg, q _ G2 H2 (x1.trans x2) ?_⟩
    cases o with
    | some d => obtain ⟨u, rfl, _⟩ := ho; rfl
    | none => subst ho; rfl
/-- d[k] = x on an own dict -/
theorem sv_dputT {i : Nat} {ty tv : TE} {ks : List (List Key)} {l : List D} {k : List Key} (e : ρ[i]? = some (.ow (.dt ks l))) (hv : EvD K ρ tv d) (hk : EvD K ρ ty (.tup (k.map kD))) (hl : ks.length < 16777216) (q : Δ.nx (ρ.set i (.ow (.dt (putKs ks k) (putVs ks l k d))))) :
    SvD K E ρ (sDPut (tVar i) ty tv) Δ := fun G0 H0 G σ H N S M =>
  hv G0 H0 G σ H S _ fun v G1 H1 x1 r1 => by
    have S1 := S.ext x1
    obtain ⟨v', e3, p, o, rfl, h0, hg, hh, ho⟩ := S1.get e
    cases o with
    | dT kvs =>
      obtain ⟨vs, rfl, h2, h3⟩ := ho
      refine ⟨.ref p, e3, hk G0 H0 G1 σ H1 S1 _ fun y G2 H2 x2 r2 => ?_⟩
      obtain ⟨b, us, rfl, hb, r3⟩ := r2
      rw [repL_kD r3] at hb
      obtain ⟨e4, e5⟩ := putK_zip (ks := ks) (vs := vs) (k := k) (v := v) h2
      refine ⟨p, _, rfl, DPut.t (x2.h _ _ hh) (x2.s _ _ hb) (by rw [List.length_zip, h2, sizeLine_eq]; omega), ?_⟩
      refine M.nx _ G2 σ _ (x1.g.trans x2.g) ((S1.ext x2).mut (d' := .dt (putKs ks k) (putVs ks l k d)) e e3 ?_) q
      exact ⟨_, e4, e5, putVs_rep (RepL.mono x2.g _ _ h3) (Rep.mono x2.g _ _ r1)⟩
    | _ => exact ho.elim
theorem sv_dputK {i : Nat} {ty tv : TE} {ks : List Key} {l : List D} {k : Key} (e : ρ[i]? = some (.ow (.dk ks l))) (hv : EvD K ρ tv d) (hk : EvD K ρ ty (kD k)) (hl : ks.length < 16777216) (q : Δ.nx (ρ.set i (.ow (.dk (putKs ks k) (putVs ks l k d))))) :
    SvD K E ρ (sDPut (tVar i) ty tv) Δ := fun G0 H0 G σ H N S M =>
  hv G0 H0 G σ H S _ fun v G1 H1 x1 r1 => by
    have S1 := S.ext x1
    obtain ⟨v', e3, p, o, rfl, h0, hg, hh, ho⟩ := S1.get e
    cases o with
    | dK kvs =>
      obtain ⟨vs, rfl, h2, h3⟩ := ho
      refine ⟨.ref p, e3, hk G0 H0 G1 σ H1 S1 _ fun y G2 H2 x2 r2 => ?_⟩
      rw [rep_kD r2]
      obtain ⟨e4, e5⟩ := putK_zip (ks := ks) (vs := vs) (k := k) (v := v) h2
      refine ⟨p, _, rfl, DPut.k (x2.h _ _ hh) (by rw [List.length_zip, h2, sizeLine_eq]; omega), ?_⟩
      refine M.nx _ G2 σ _ (x1.g.trans x2.g) ((S1.ext x2).mut (d' := .dk (putKs ks k) (putVs ks l k d)) e e3 ?_) q
      exact ⟨_, e4, e5, putVs_rep (RepL.mono x2.g _ _ h3) (Rep.mono x2.g _ _ r1)⟩
    | _ => exact ho.elim
/-- list.insert on an own list -/
theorem sv_ins {i : Nat} {ti : TE} {l : List D} {n : Int} (e : ρ[i]? = some (.ow (.lst l))) (hi : EvD K ρ ti (.int n)) (h : EvD K ρ te d) (hl : l.length < 16777216) (h0' : 0 ≤ n) (h1' : n < 2 ^ 63) (q : Δ.nx (ρ.set i (.ow (.lst (l.take n.toNat ++ [d] ++ l.drop n.toNat))))) :
    SvD K E ρ (tDrop (tBM K "list" qInsert (tVar i) (tCons ti (tCons te tNil)))) Δ := fun G0 H0 G σ H N S M => by
  obtain ⟨v, e3, p, o, rfl, h0, hg, hh, ho⟩ := S.get e
  cases o with
  | lst vs =>
    refine ⟨.ref p, e3, .inl ⟨rfl, vs, SqL.of hh⟩, hi G0 H0 G σ H S _ fun u G1 H1 x r => h G0 H0 G1 σ H1 (S.ext x) _ fun w G2 H2 x2 r2 => ?_⟩
    cases (show u = .int n from r)
    have xx := x.trans x2
    refine ⟨p, vs, n, w, rfl, rfl, xx.h _ _ hh, by rw [RepL.len ho, sizeLine_eq]; exact hl, h0', h1', ?_⟩
    have r3 := RepL.mono xx.g _ _ ho
    exact M.nx _ G2 σ _ xx.g ((S.ext xx).mut (d' := .lst (l.take n.toNat ++ [d] ++ l.drop n.toNat)) e e3 (((r3.take _).append (.one r2)).append (r3.drop _))) q
  | _ => exact ho.elim
end
end PL

set_option Elab.async false
set_option linter.all false
set_option maxRecDepth 100000
set_option maxHeartbeats 1000000
/-! DL7: own objects that hold own objects; constructors; objects lent to a call. -/
namespace PL
open PySem PySem.Spec PyProof.Rows L2

section
variable {K : PySem.W.Frag} {G H G' H' G0 H0 : Hp}
theorem zip_inj {α : Type} : ∀ {ks : List α} {vs ws : List V}, ks.zip vs = ks.zip ws → vs.length = ks.length → ws.length = ks.length → vs = ws
  | [], [], [], _, _, _ => rfl
  | [], _ :: _, _, _, h, _ => by simp at h
  | [], [], _ :: _, _, _, h => by simp at h
  | k :: ks, [], _, _, h, _ => by simp at h
  | k :: ks, _ :: _, [], _, _, h => by simp at h
  | k :: ks, v :: vs, w :: ws, e, h1, h2 => by
    simp only [List.zip_cons_cons, List.cons.injEq, Prod.mk.injEq, true_and] at e
    rw [e.1, zip_inj e.2 (by simpa using h1) (by simpa using h2)]
theorem Tp.ho_inj {t : Tp} {vs ws : List V} {u : HO} (h1 : t.ho vs u) (h2 : t.ho ws u) : vs = ws := by
  cases t with
  | lst => cases (show u = .lst vs from h1); cases (show HO.lst vs = .lst ws from h2); rfl
  | dk ks => obtain ⟨rfl, n1⟩ := h1; obtain ⟨e, n2⟩ := h2; injection e with e; exact zip_inj e n1 n2
  | dt ks => obtain ⟨rfl, n1⟩ := h1; obtain ⟨e, n2⟩ := h2; injection e with e; exact zip_inj e n1 n2
  | ins C ns => obtain ⟨dx, rfl, n1⟩ := h1; obtain ⟨dx', e, n2⟩ := h2; injection e with _ _ e; exact zip_inj e n1 n2
def O.at : O → List Nat → Option O
  | o, [] => some o
  | .nd _ l, k :: π => match l[k]? with
    | some c => O.at c π
    | none => none
  | .fz _, _ :: _ => none
def O.put : O → List Nat → O → O
  | _, [], o => o
  | .nd t l, k :: π, o => match l[k]? with
    | some c => .nd t (l.set k (O.put c π o))
    | none => .nd t l
  | .fz d, _ :: _, _ => .fz d
/-- from an object's value the way down to a value in it -/
def PathV (H : Hp) : O → List Nat → V → V → Prop
  | _, [], v0, v => v = v0
  | .nd t l, k :: π, v0, v => ∃ p u vs w c, v0 = .ref p ∧ H p = some u ∧ t.ho vs u ∧ vs[k]? = some w ∧ l[k]? = some c ∧ PathV H c π w v
  | .fz _, _ :: _, _, _ => False
theorem PathV.ext (e : Ex H H') : ∀ {π : List Nat} {o : O} {v0 v : V}, PathV H o π v0 v → PathV H' o π v0 v
  | [], _, _, _, h => h
  | k :: π, .nd t l, v0, v, h => by
    obtain ⟨p, u, vs, w, c, h1, h2, h3, h4, h5, h6⟩ := h
    exact ⟨p, u, vs, w, c, h1, e _ _ h2, h3, h4, h5, PathV.ext e h6⟩
  | k :: π, .fz _, _, _, h => h.elim
theorem RepOL.at : ∀ {l : List O} {vs : List V} {A : List Addr} {k : Nat} {c : O}, RepOL K H0 G H l vs A → l[k]? = some c →
    ∃ w B1 Ak B2, A = B1 ++ (Ak ++ B2) ∧ vs[k]? = some w ∧ RepO K H0 G H c w Ak ∧
      ∀ (G1 H1 : Hp) (c' : O) (Ak' : List Addr), Ex G G1 → (∀ q ∈ B1 ++ B2, G1 q = none ∧ H1 q = H q) → RepO K H0 G1 H1 c' w Ak' → RepOL K H0 G1 H1 (l.set k c') vs (B1 ++ (Ak' ++ B2))
  | [], _, _, _, _, _, e => by simp at e
  | o :: os, vs, A, 0, c, h, e => by
    obtain ⟨v, r, A1, A2, rfl, rfl, h1, h2⟩ := h
    simp at e; subst e
    exact ⟨v, [], A1, A2, rfl, rfl, h1, fun G1 H1 c' Ak' eg f hc => ⟨v, r, Ak', A2, rfl, rfl, hc, RepOL.map eg _ _ _ h2 f⟩⟩
  | o :: os, vs, A, k + 1, c, h, e => by
    obtain ⟨v, r, A1, A2, rfl, rfl, h1, h2⟩ := h
    obtain ⟨w, B1, Ak, B2, rfl, e1, e2, e3⟩ := RepOL.at (k := k) h2 (by simpa using e)
    refine ⟨w, A1 ++ B1, Ak, B2, by simp, by simpa using e1, e2, fun G1 H1 c' Ak' eg f hc => ?_⟩
    refine ⟨v, r, A1, B1 ++ (Ak' ++ B2), rfl, by simp, RepO.map eg _ _ _ h1 fun q hq => f q (by simp [hq]), e3 G1 H1 c' Ak' eg (fun q hq => f q ?_) hc⟩
    rcases List.mem_append.mp hq with hq | hq <;> simp [hq]
theorem RepO.putP : ∀ {π : List Nat} {o o' : O} {v0 v : V} {A : List Addr}, RepO K H0 G H o v0 A → A.Nodup → PathV H o π v0 v → o.at π = some o' →
    ∃ A', RepO K H0 G H o' v A' ∧ A'.Nodup ∧ (∀ q ∈ A', q ∈ A) ∧ ∀ (G1 H1 : Hp) (o2 : O) (A2 : List Addr), Ex G G1 → (∀ q ∈ A, q ∉ A' → G1 q = none ∧ H1 q = H q) → RepO K H0 G1 H1 o2 v A2 → A2.Nodup → (∀ q ∈ A2, q ∈ A → q ∈ A') →
      ∃ B, RepO K H0 G1 H1 (o.put π o2) v0 B ∧ (∀ q ∈ B, q ∈ A2 ∨ (q ∈ A ∧ q ∉ A')) ∧ B.Nodup
  | [], o, o', v0, v, A, h, nd, hp, ho => by
    cases (show v = v0 from hp)
    cases (show some o = some o' from by cases o <;> exact ho)
    exact ⟨A, h, nd, fun q hq => hq, fun G1 H1 o2 A2 _ _ hr n _ => ⟨A2, by cases o <;> exact hr, fun q hq => .inl hq, n⟩⟩
  | k :: π, .fz _, _, _, _, _, _, _, hp, _ => hp.elim
  | k :: π, .nd t l, o', v0, v, A, h, nd, hp, ho => by
    obtain ⟨p, u, vs, B, rfl, rfl, h0, hg, hh, ht, hl⟩ := h
    obtain ⟨p', u', vs', w, c, e1, e2, e3, e4, e5, e6⟩ := hp
    cases e1
    rw [hh] at e2; cases e2
    cases Tp.ho_inj ht e3
    have ho' : c.at π = some o' := by
      have : (O.nd t l).at (k :: π) = c.at π := by simp [O.at, e5]
      rw [← this]; exact ho
    obtain ⟨w', B1, Ak, B2, rfl, f1, f2, f3⟩ := hl.at e5
    rw [e4] at f1; cases f1
    obtain ⟨np, nB⟩ := List.nodup_cons.mp nd
    have nk := nodup_mid nB
    have ap := nodup_apart nB
    obtain ⟨A', g1, g2, g3, g4⟩ := RepO.putP (π := π) f2 nk e6 ho'
    have up : ∀ q, q ∈ Ak → q ∈ p :: (B1 ++ (Ak ++ B2)) := fun q hq => List.mem_cons_of_mem _ (List.mem_append_right _ (List.mem_append_left _ hq))
    have um : ∀ q, q ∈ B1 ++ B2 → q ∈ p :: (B1 ++ (Ak ++ B2)) := fun q hq => List.mem_cons_of_mem _ (mem_mid hq)
    refine ⟨A', g1, g2, fun q hq => up q (g3 q hq), fun G1 H1 o2 A2 eg f hr n ha => ?_⟩
    have pA : p ∉ A' := fun z => np (List.mem_append_right _ (List.mem_append_left _ (g3 p z)))
    have out : ∀ q, q ∈ B1 ++ B2 → q ∉ A' := fun q hq z => ap q (g3 q z) hq
    obtain ⟨Bk, k1, k2, k3⟩ := g4 G1 H1 o2 A2 eg (fun q hq hn => f q (up q hq) hn) hr n (fun q hq z => ha q hq (up q z))
    have k4 : ∀ q ∈ Bk, q ∈ A2 ∨ q ∈ p :: (B1 ++ (Ak ++ B2)) ∧ q ∉ A' := fun q hq => by
      rcases k2 q hq with z | ⟨z1, z2⟩
      · exact .inl z
      · exact .inr ⟨up q z1, z2⟩
    refine ⟨p :: (B1 ++ (Bk ++ B2)), ?_, fun q hq => ?_, ?_⟩
    · have : (O.nd t l).put (k :: π) o2 = .nd t (l.set k (c.put π o2)) := by simp [O.put, e5]
      rw [this]
      exact ⟨p, u, vs, _, rfl, rfl, h0, (f p List.mem_cons_self pA).1, by rw [(f p List.mem_cons_self pA).2]; exact hh, ht, f3 G1 H1 _ Bk eg (fun q hq => f q (um q hq) (out q hq)) k1⟩
    · rcases List.mem_cons.mp hq with rfl | hq
      · exact .inr ⟨List.mem_cons_self, pA⟩
      · rcases List.mem_append.mp hq with hq | hq
        · exact .inr ⟨um q (List.mem_append_left _ hq), out q (List.mem_append_left _ hq)⟩
        · rcases List.mem_append.mp hq with hq | hq
          · exact k4 q hq
          · exact .inr ⟨um q (List.mem_append_right _ hq), out q (List.mem_append_right _ hq)⟩
    · refine List.nodup_cons.mpr ⟨fun z => ?_, nodup_put nB k3 fun q hq hb => ?_⟩
      · have hpB : p ∉ B1 ++ B2 := fun z => np (mem_mid z)
        rcases List.mem_append.mp z with z | z
        · exact hpB (List.mem_append_left _ z)
        · rcases List.mem_append.mp z with z | z
          · rcases k2 p z with z | ⟨z, _⟩
            · exact pA (ha p z List.mem_cons_self)
            · exact np (List.mem_append_right _ (List.mem_append_left _ z))
          · exact hpB (List.mem_append_right _ z)
      · rcases k2 q hq with z | ⟨z, _⟩
        · exact out q hb (ha q z (um q hb))
        · exact ap q z hb
variable {ρ : List Sl} {σ : L2.St}
/-- what stands at the end of a way down from slot i; H: before something was made -/
theorem St.putP (S : St K G0 H0 ρ G σ H) {Ga Ha : Hp} (xa : Ext G H Ga Ha) {i : Nat} {x : Option Addr} {o o' : O} {π : List Nat} {v0 v : V} (e : ρ[i]? = some (.dp x o)) (e1 : σ[i]? = some (some v0)) (hp : PathV Ha o π v0 v) (ho : o.at π = some o') :
    ∃ A', RepO K H0 Ga Ha o' v A' ∧ A'.Nodup ∧ (∀ q ∈ A', H q ≠ none) ∧ ∀ (G1 H1 : Hp) (o2 : O) (A2 : List Addr), Ex Ga G1 → Ext G0 H0 G1 H1 → (∀ q, H q ≠ none → Ga q = none → q ∉ A' → G1 q = none ∧ H1 q = Ha q) → RepO K H0 G1 H1 o2 v A2 → A2.Nodup → (∀ q ∈ A2, q ∈ A' ∨ H q = none) →
      St K G0 H0 (ρ.set i (.dp x (o.put π o2))) G1 σ H1 := by
  obtain ⟨A, h0, nd⟩ := S.sl
  have th0 := h0.there
  have h := h0.map xa.g fun q hq => there_ext xa (th0 q hq)
  obtain ⟨u, B1, Ai, B2, rfl, f1, f2, f3⟩ := h.at e
  rw [e1] at f1; cases f1
  obtain ⟨u, e2, ex, hr⟩ := f2
  cases e2
  obtain ⟨A', g1, g2, g3, g4⟩ := hr.putP (nodup_mid nd) hp ho
  have th := h.there
  have inA : ∀ q, q ∈ Ai → q ∈ B1 ++ (Ai ++ B2) := fun q hq => List.mem_append_right _ (List.mem_append_left _ hq)
  refine ⟨A', g1, g2, fun q hq => (th0 q (inA q (g3 q hq))).2.2, fun G1 H1 o2 A2 eg x1 f hr2 n ha => ?_⟩
  have nn : ∀ q ∈ A2, q ∈ B1 ++ (Ai ++ B2) → q ∈ A' := fun q hq hb => by
    rcases ha q hq with z | z
    · exact z
    · exact absurd z (th0 q hb).2.2
  have f' : ∀ q, q ∈ B1 ++ (Ai ++ B2) → q ∉ A' → G1 q = none ∧ H1 q = Ha q := fun q hq hn => f q (th0 q hq).2.2 (th q hq).2.1 hn
  obtain ⟨B, k1, k2, k3⟩ := g4 G1 H1 o2 A2 eg (fun q hq hn => f' q (inA q hq) hn) hr2 n (fun q hq hb => nn q hq (inA q hb))
  have ap := nodup_apart nd
  have out : ∀ q, q ∈ B1 ++ B2 → q ∉ A' := fun q hq z => ap q (g3 q z) hq
  have := f3 G1 H1 (.dp x (o.put π o2)) (some v0) B eg (fun q hq => f' q (mem_mid hq) (out q hq)) ⟨v0, rfl, ex, k1⟩
  rw [set_same e1] at this
  refine ⟨x1, _, this, nodup_put nd k3 fun q hq hb => ?_⟩
  rcases k2 q hq with z | ⟨z, _⟩
  · exact out q hb (nn q z (mem_mid hb))
  · exact ap q z hb
theorem RepOL.append : ∀ {l m : List O} {vs ws : List V} {A B : List Addr}, RepOL K H0 G H l vs A → RepOL K H0 G H m ws B → RepOL K H0 G H (l ++ m) (vs ++ ws) (A ++ B)
  | [], _, vs, _, _, _, h, h' => by obtain ⟨rfl, rfl⟩ := h; exact h'
  | o :: os, _, vs, _, _, _, h, h' => by
    obtain ⟨v, r, A1, A2, rfl, rfl, h1, h2⟩ := h
    exact ⟨v, r ++ _, A1, A2 ++ _, rfl, by simp, h1, RepOL.append h2 h'⟩
theorem RepOL.len : ∀ {l : List O} {vs : List V} {A : List Addr}, RepOL K H0 G H l vs A → vs.length = l.length
  | [], vs, _, h => by rw [h.1]; rfl
  | o :: os, vs, _, h => by
    obtain ⟨v, r, A1, A2, rfl, rfl, h1, h2⟩ := h
    simp [RepOL.len h2]
theorem RepOL.of_fz : ∀ {ds : List D} {vs : List V}, RepL K G ds vs → RepOL K H0 G H (ds.map .fz) vs []
  | [], _, h => ⟨h, rfl⟩
  | d :: ds, _, h => by
    obtain ⟨v, r, rfl, h1, h2⟩ := h
    exact ⟨v, r, [], [], rfl, rfl, ⟨rfl, h1⟩, RepOL.of_fz h2⟩
theorem RepOL.to_fz : ∀ {ds : List D} {vs : List V} {A : List Addr}, RepOL K H0 G H (ds.map .fz) vs A → RepL K G ds vs ∧ A = []
  | [], _, _, h => h
  | d :: ds, _, _, h => by
    obtain ⟨v, r, A1, A2, rfl, rfl, h1, h2⟩ := h
    obtain ⟨h3, rfl⟩ := RepOL.to_fz h2
    exact ⟨⟨v, r, rfl, h1.2, h3⟩, by rw [h1.1]; rfl⟩
theorem Tp.own {t : Tp} {ds : List D} {vs : List V} {u : HO} (ht : t.ho vs u) (h : RepL K G ds vs) : OwnO K G (t.d ds) u := by
  cases t with
  | lst => cases (show u = .lst vs from ht); exact h
  | dk ks => obtain ⟨rfl, n⟩ := ht; exact ⟨vs, rfl, n, h⟩
  | dt ks => obtain ⟨rfl, n⟩ := ht; exact ⟨vs, rfl, n, h⟩
  | ins C ns => obtain ⟨dx, rfl, n⟩ := ht; exact ⟨rfl, vs, rfl, n, h⟩
theorem Tp.of_own {t : Tp} {ds : List D} {u : HO} (h : OwnO K G (t.d ds) u) : ∃ vs, t.ho vs u ∧ RepL K G ds vs := by
  cases t with
  | lst =>
    cases u with
    | lst vs => exact ⟨vs, rfl, h⟩
    | _ => exact h.elim
  | dk ks =>
    cases u with
    | dK kvs => obtain ⟨vs, rfl, n, h⟩ := h; exact ⟨vs, ⟨rfl, n⟩, h⟩
    | _ => exact h.elim
  | dt ks =>
    cases u with
    | dT kvs => obtain ⟨vs, rfl, n, h⟩ := h; exact ⟨vs, ⟨rfl, n⟩, h⟩
    | _ => exact h.elim
  | ins C ns =>
    cases u with
    | ins C' dx fs => obtain ⟨rfl, vs, rfl, n, h⟩ := h; exact ⟨vs, ⟨dx, rfl, n⟩, h⟩
    | _ => exact h.elim

theorem RepBL.of : ∀ {ds : List D} {vs : List V}, RepL K G ds vs → RepBL K G H ds vs
  | [], _, h => h
  | d :: ds, _, h => by
    obtain ⟨v, r, rfl, h1, h2⟩ := h
    exact ⟨v, r, rfl, .inl h1, RepBL.of h2⟩
theorem O.dL_fz : ∀ ds : List D, O.dL (ds.map .fz) = ds
  | [] => rfl
  | d :: ds => by rw [List.map_cons, O.dL, O.dL_fz ds]; rfl
mutual
theorem RepO.old {Hb : Hp} (e : Ex Hb H0) : ∀ (o : O) (v : V) (A : List Addr), RepO K H0 G H o v A → RepO K Hb G H o v A
  | .fz d, v, A, h => h
  | .nd t l, v, A, h => by
    obtain ⟨p, u, vs, B, rfl, rfl, h0, hg, hh, ht, hl⟩ := h
    exact ⟨p, u, vs, B, rfl, rfl, e.back h0, hg, hh, ht, RepOL.old e l vs B hl⟩
theorem RepOL.old {Hb : Hp} (e : Ex Hb H0) : ∀ (l : List O) (vs : List V) (A : List Addr), RepOL K H0 G H l vs A → RepOL K Hb G H l vs A
  | [], _, _, h => h
  | o :: os, vs, A, h => by
    obtain ⟨v, r, A1, A2, rfl, rfl, h1, h2⟩ := h
    exact ⟨v, r, A1, A2, rfl, rfl, RepO.old e o v A1 h1, RepOL.old e os r A2 h2⟩
end
/-- new addresses are let go -/
theorem RepO.letgo {o : O} {v : V} {A : List Addr} (x : Ext G H G' H') (h : RepO K H G' H' o v A) : ∃ G1, Ext G H G1 H' ∧ Ex G' G1 ∧ Rep K G1 o.d v := by
  have th := RepO.there _ _ _ h
  have hEx : Ex G' (fun a => if a ∈ A then H' a else G' a) := fun a w ha => by
    by_cases z : a ∈ A
    · rw [(th a z).2.1] at ha; cases ha
    · simp only [z, if_false]; exact ha
  refine ⟨fun a => if a ∈ A then H' a else G' a, ⟨x.g.trans hEx, x.h, fun a w ha => ?_, fun q hq => ?_⟩, hEx, RepO.rep hEx _ _ _ h fun q hq => by simp [hq]⟩
  · by_cases z : a ∈ A
    · simp only [z, if_true] at ha; exact ha
    · simp only [z, if_false] at ha; exact x.s _ _ ha
  · have z : q ∉ A := fun z => hq (th q z).1
    simp only [z, if_false]; exact x.n q hq
/-! ### judgements -/
/-- an expression that leads to the end of way π from slot i -/
def EvP (K : PySem.W.Frag) (ρ : List Sl) (te : TE) (i : Nat) (π : List Nat) : Prop := ∀ (G0 H0 G : Hp) (σ : L2.St) (H : Hp), St K G0 H0 ρ G σ H → ∀ (x : Option Addr) (o : O), ρ[i]? = some (.dp x o) → ∀ Q : VK,
  (∀ v0 v, σ[i]? = some (some v0) → PathV H o π v0 v → Q v H) → te σ H Q
variable {te ta tb tv : TE} {d d1 d2 : D} {i : Nat} {π : List Nat} {x : Option Addr} {o o' : O}
theorem ep_var : EvP K ρ (tVar i) i [] := fun G0 H0 G σ H S x o e Q q => by
  obtain ⟨ov, e1, v, A, rfl, _, _, _⟩ := S.get e
  exact ⟨v, e1, q v v e1 rfl⟩
theorem PathV.snoc (H : Hp) {t : Tp} {l : List O} {k : Nat} {c : O} {p : Addr} {u : HO} {vs : List V} {w : V} (hu : H p = some u) (ht : t.ho vs u) (hw : vs[k]? = some w) (hc : l[k]? = some c) :
    ∀ {π : List Nat} {o : O} {v0 : V}, PathV H o π v0 (.ref p) → o.at π = some (.nd t l) → PathV H o (π ++ [k]) v0 w
  | [], o, v0, h, ha => by
    cases (show V.ref p = v0 from h)
    cases (show some o = some (.nd t l) from by cases o <;> exact ha)
    exact ⟨p, u, vs, w, c, rfl, hu, ht, hw, hc, rfl⟩
  | j :: π, .fz _, _, h, _ => h.elim
  | j :: π, .nd t' l', v0, h, ha => by
    obtain ⟨p', u', vs', w', c', h1, h2, h3, h4, h5, h6⟩ := h
    refine ⟨p', u', vs', w', c', h1, h2, h3, h4, h5, PathV.snoc H hu ht hw hc h6 ?_⟩
    have : (O.nd t' l').at (j :: π) = c'.at π := by simp [O.at, h5]
    rw [← this]; exact ha
/-- the object at the end -/
theorem St.nd_at (S : St K G0 H0 ρ G σ H) {t : Tp} {l : List O} {v0 v : V} (e : ρ[i]? = some (.dp x o)) (e1 : σ[i]? = some (some v0)) (hp : PathV H o π v0 v) (ho : o.at π = some (.nd t l)) :
    ∃ p u vs, v = .ref p ∧ G p = none ∧ H p = some u ∧ t.ho vs u ∧ vs.length = l.length := by
  obtain ⟨A', h, _⟩ := S.putP (.refl S.x.s) e e1 hp ho
  obtain ⟨p, u, vs, B, rfl, rfl, h0, hg, hh, ht, hl⟩ := h
  exact ⟨p, u, vs, rfl, hg, hh, ht, hl.len⟩
theorem ep_fld {C : Addr} {f : Str} {ns : List Str} {l : List O} (k : Nat) (hc : Cls K C) (hn : NoAttr K C f) (h : EvP K ρ te i π) (e : ρ[i]? = some (.dp x o)) (ho : o.at π = some (.nd (.ins C ns) l)) (e1 : ns[k]? = some f := by rfl) (hk : k < l.length := by simp) (nd : ns.Nodup := by decide +kernel) :
    EvP K ρ (tFld K te f) i (π ++ [k]) := fun G0 H0 G σ H S x' o2 e' Q q => by
  rw [e] at e'; cases e'
  refine h G0 H0 G σ H S x o e _ fun v0 v f1 f2 => ?_
  obtain ⟨p, u, vs, rfl, hg, hh, ht, hl⟩ := S.nd_at e f1 f2 ho
  obtain ⟨dx, rfl, n⟩ := ht
  have hk' : k < vs.length := by rw [hl]; exact hk
  exact ⟨p, C, dx, _, vs[k], rfl, hh, hc, hn, lookup_zip nd e1 (List.getElem?_eq_getElem hk'), q v0 _ f1 (PathV.snoc H (t := .ins C ns) hh ⟨dx, rfl, n⟩ (List.getElem?_eq_getElem hk') (List.getElem?_eq_getElem hk) f2 ho)⟩
theorem ep_ix {l : List O} (k : Nat) (h : EvP K ρ te i π) (e : ρ[i]? = some (.dp x o)) (ho : o.at π = some (.nd .lst l)) (hk : k < l.length := by simp) : EvP K ρ (tOp (rIx K) te (tC (.int k))) i (π ++ [k]) := fun G0 H0 G σ H S x' o2 e' Q q => by
  rw [e] at e'; cases e'
  refine h G0 H0 G σ H S x o e _ fun v0 v f1 f2 => ?_
  obtain ⟨p, u, vs, rfl, hg, hh, ht, hl⟩ := S.nd_at e f1 f2 ho
  cases (show u = .lst vs from ht)
  have hk' : k < vs.length := by rw [hl]; exact hk
  exact .inl ⟨p, vs, k, vs[k], rfl, rfl, SqL.of hh, by rw [atI_nn (by omega) (by omega)]; exact List.getElem?_eq_getElem hk', q v0 vs[k] f1 (PathV.snoc H (t := .lst) hh rfl (List.getElem?_eq_getElem hk') (List.getElem?_eq_getElem hk) f2 ho)⟩

theorem evb_path {t : Tp} {ds : List D} (h : EvP K ρ te i π) (e : ρ[i]? = some (.dp x o)) (ho : o.at π = some (.nd t (ds.map .fz))) : EvB K ρ te (t.d ds) := fun G0 H0 G σ H S Q q => by
  refine h G0 H0 G σ H S x o e _ fun v0 v f1 f2 => ?_
  obtain ⟨A', hr, _⟩ := S.putP (.refl S.x.s) e f1 f2 ho
  obtain ⟨p, u, vs, B, rfl, rfl, h0, hg, hh, ht, hl⟩ := hr
  exact q _ G H (.refl S.x.s) (.inr ⟨p, u, rfl, hg, hh, Tp.own ht hl.to_fz.1⟩)
theorem ev_path (h : EvP K ρ te i π) (e : ρ[i]? = some (.dp x o)) (ho : o.at π = some (.fz d)) : EvD K ρ te d := fun G0 H0 G σ H S Q q => by
  refine h G0 H0 G σ H S x o e _ fun v0 v f1 f2 => ?_
  obtain ⟨A', hr, _⟩ := S.putP (.refl S.x.s) e f1 f2 ho
  exact q _ G H (.refl S.x.s) hr.2
/-- read in the whole heap -/
def EvW (K : PySem.W.Frag) (ρ : List Sl) (te : TE) (d : D) : Prop := ∀ (G0 H0 G : Hp) (σ : L2.St) (H : Hp), St K G0 H0 ρ G σ H → ∀ Q : VK, (∀ v G' H', Ext G H G' H' → Rep K H' d v → Q v H') → te σ H Q
def EvAW (K : PySem.W.Frag) (ρ : List Sl) (ta : TA) (ds : List D) : Prop := ∀ (G0 H0 G : Hp) (σ : L2.St) (H : Hp), St K G0 H0 ρ G σ H → ∀ Q : List V → Hp → Prop, (∀ vs G' H', Ext G H G' H' → RepL K H' ds vs → Q vs H') → ta σ H Q
theorem EvB.w (h : EvB K ρ te d) : EvW K ρ te d := fun G0 H0 G σ H S Q q => h G0 H0 G σ H S Q fun v G' H' x r => q v G' H' x (r.rep x.s)
theorem ew_path (h : EvP K ρ te i π) (e : ρ[i]? = some (.dp x o)) (ho : o.at π = some o') : EvW K ρ te o'.d := fun G0 H0 G σ H S Q q => by
  refine h G0 H0 G σ H S x o e _ fun v0 v f1 f2 => ?_
  obtain ⟨A', hr, _⟩ := S.putP (.refl S.x.s) e f1 f2 ho
  exact q _ G H (.refl S.x.s) (RepO.rep S.x.s _ _ _ hr fun _ _ => rfl)
theorem ew_var (e : ρ[i]? = some (.dp x o)) : EvW K ρ (tVar i) o.d := ew_path ep_var e (by cases o <;> rfl)
theorem ea_wnil : EvAW K ρ tNil [] := fun G0 H0 G σ H S Q q => q _ G H (.refl S.x.s) rfl
theorem ea_wcons {t : TA} {ds : List D} (h : EvW K ρ te d) (h2 : EvAW K ρ t ds) : EvAW K ρ (tCons te t) (d :: ds) := fun G0 H0 G σ H S Q q =>
  h G0 H0 G σ H S _ fun v G1 H1 x1 r1 => h2 G0 H0 G1 σ H1 (S.ext x1) _ fun vs G2 H2 x2 r2 => q _ G2 H2 (x1.trans x2) ⟨v, vs, rfl, Rep.mono x2.h _ _ r1, r2⟩
/-- only what is there grows -/
theorem Ext.grow {H2 : Hp} (x : Ext G H G' H') (e : Ex H' H2) : Ext G H G' H2 := ⟨x.g, x.h.trans e, x.s.trans e, x.n⟩
theorem ev_opW {r : R2} (ha : EvW K ρ ta d1) (hb : EvW K ρ tb d2) (ho : OpD K r d1 d2 d) (hf : flat d = true := by rfl) : EvD K ρ (tOp r ta tb) d := fun G0 H0 G σ H S Q q =>
  ha G0 H0 G σ H S _ fun v G1 H1 x1 r1 => hb G0 H0 G1 σ H1 (S.ext x1) _ fun u G2 H2 x2 r2 =>
    ho H2 H2 v u (.refl _) (.inl (Rep.mono x2.h _ _ r1)) (.inl r2) Q fun w G3 H3 x3 r3 => q w G2 H3 ((x1.trans x2).grow x3.h) (r3.flat hf)
theorem ev_cbW {r : RC} {t : TA} {ds : List D} (h : EvAW K ρ t ds) (hr : CbD K r ds d) (hf : flat d = true := by rfl) : EvD K ρ (tCB r t) d := fun G0 H0 G σ H S Q q =>
  h G0 H0 G σ H S _ fun vs G1 H1 x r1 => hr H1 H1 vs (.refl _) (RepBL.of r1) Q fun v G2 H2 x2 r2 => q v G1 H2 (x.grow x2.h) (r2.flat hf)

/-- something fresh that holds fresh objects -/
def EvN (K : PySem.W.Frag) (ρ : List Sl) (te : TE) (o : O) : Prop := ∀ (G0 H0 G : Hp) (σ : L2.St) (H : Hp), St K G0 H0 ρ G σ H → ∀ Q : VK, (∀ v A G' H', Ext G H G' H' → RepO K H G' H' o v A → A.Nodup → Q v H') → te σ H Q
def EvNA (K : PySem.W.Frag) (ρ : List Sl) (ta : TA) (os : List O) : Prop := ∀ (G0 H0 G : Hp) (σ : L2.St) (H : Hp), St K G0 H0 ρ G σ H → ∀ Q : List V → Hp → Prop, (∀ vs A G' H', Ext G H G' H' → RepOL K H G' H' os vs A → A.Nodup → Q vs H') → ta σ H Q
theorem EvD.n (h : EvD K ρ te d) : EvN K ρ te (.fz d) := fun G0 H0 G σ H S Q q => h G0 H0 G σ H S Q fun v G' H' x r => q v [] G' H' x ⟨rfl, r⟩ .nil
theorem EvF.n {t : Tp} {ds : List D} (h : EvF K ρ te (t.d ds)) : EvN K ρ te (.nd t (ds.map .fz)) := fun G0 H0 G σ H S Q q => h G0 H0 G σ H S Q fun p u G' H' x hp hg hh ho => by
  obtain ⟨vs, ht, hr⟩ := Tp.of_own ho
  exact q (.ref p) [p] G' H' x ⟨p, u, vs, [], rfl, rfl, hp, hg, hh, ht, RepOL.of_fz hr⟩ (by simp)
theorem EvN.im (h : EvN K ρ te o) : EvD K ρ te o.d := fun G0 H0 G σ H S Q q => h G0 H0 G σ H S Q fun v A G' H' x r nd => by
  obtain ⟨G1, x1, _, r1⟩ := RepO.letgo x r
  exact q v G1 H' x1 r1
theorem ena_nil : EvNA K ρ tNil [] := fun G0 H0 G σ H S Q q => q _ [] G H (.refl S.x.s) ⟨rfl, rfl⟩ .nil
theorem ena_cons {t : TA} {os : List O} (h : EvN K ρ te o) (h2 : EvNA K ρ t os) : EvNA K ρ (tCons te t) (o :: os) := fun G0 H0 G σ H S Q q =>
  h G0 H0 G σ H S _ fun v A G1 H1 x1 r1 n1 => h2 G0 H0 G1 σ H1 (S.ext x1) _ fun vs B G2 H2 x2 r2 n2 => by
    have th1 := RepO.there _ _ _ r1
    have th2 := RepOL.there _ _ _ r2
    refine q _ (A ++ B) G2 H2 (x1.trans x2) ⟨v, vs, A, B, rfl, rfl, RepO.map x2.g _ _ _ r1 fun q hq => there_ext x2 (th1 q hq), RepOL.old x1.h _ _ _ r2⟩ (List.nodup_append.mpr ⟨n1, n2, fun a ha b hb z => ?_⟩)
    exact (th1 a ha).2.2 (by rw [z]; exact (th2 b hb).1)
theorem en_lst {t : TA} {os : List O} (h : EvNA K ρ t os) (hl : os.length ≤ 16777216 := by decide) : EvN K ρ (tLst t) (.nd .lst os) := fun G0 H0 G σ H S Q q =>
  h G0 H0 G σ H S _ fun vs A G1 H1 x r n => ⟨by rw [r.len, sizeLine_eq]; exact hl, fun p hp => by
    have th := RepOL.there _ _ _ r
    have np : p ∉ A := fun z => (th p z).2.2 hp
    have hg : G1 p = none := x.s.back hp
    refine q (.ref p) (p :: A) G1 (upd H1 p (.lst vs)) (x.trans (.hid x.s hp)) ⟨p, _, vs, A, rfl, rfl, x.h.back hp, hg, upd_same, rfl, RepOL.map (.refl _) _ _ _ r fun q hq => ⟨(th q hq).2.1, upd_ne (by rintro rfl; exact np hq)⟩⟩ (List.nodup_cons.mpr ⟨np, n⟩)⟩
variable {E : XK} {Δ : De} {t : TS}
theorem sv_setO {j : Nat} (h : EvN K ρ te o) (q : Δ.nx (ρ.set j (.dp none o))) : SvD K E ρ (tAsg te (gName j)) Δ := fun G0 H0 G σ H N S M =>
  h G0 H0 G σ H S _ fun v A G1 H1 x r nd => M.nx _ G1 _ H1 x.g (S.set_new x (s := .dp none o) (v := some v) (A := A) ⟨v, rfl, fun a e => (by cases e), RepO.old S.x.h _ _ _ r⟩ nd (fun q hq => (RepO.there _ _ _ r q hq).1) j) q
theorem sv_retO (h : EvN K ρ te o) (q : Δ.rt (.dp none o)) : SvD K E ρ (tRet te) Δ := fun G0 H0 G σ H N S M =>
  h G0 H0 G σ H S _ fun v A G1 H1 x r nd => M.rt (.dp none o) v G1 H1 x.g (S.x.trans x) ⟨v, A, rfl, fun a e => (by cases e), RepO.old S.x.h _ _ _ r, nd⟩ q
theorem sv_ret_dp {j : Nat} (e : ρ[j]? = some (.dp x o)) (q : Δ.rt (.dp none o)) : SvD K E ρ (tRet (tVar j)) Δ := fun G0 H0 G σ H N S M => by
  obtain ⟨ov, e1, v, A, rfl, _, r, nd⟩ := S.get e
  exact ⟨v, e1, M.rt (.dp none o) v G H (.refl _) S.x ⟨v, A, rfl, fun a e => (by cases e), r, nd⟩ q⟩
theorem sv_frzO (j : Nat) (e : ρ[j]? = some (.dp x o)) (h : SvD K E (ρ.set j (.im o.d)) t Δ) : SvD K E ρ t Δ := fun G0 H0 G σ H N S M => by
  obtain ⟨G', x, S'⟩ := S.frzO e
  exact h G0 H0 G' σ H N S' (M.up x)
/-- return [x, own object] -/
theorem sv_ret_lst2 {j : Nat} {tp : Tp} {ds : List D} (h : EvD K ρ te d) (e : ρ[j]? = some (.ow (tp.d ds))) (q : Δ.rt (.dp none (.nd .lst [.fz d, .nd tp (ds.map .fz)]))) : SvD K E ρ (tRet (tLst (tCons te (tCons (tVar j) tNil)))) Δ := fun G0 H0 G σ H N S M =>
  h G0 H0 G σ H S _ fun v G1 H1 x r => by
    have S1 := S.ext x
    obtain ⟨ov, e1, p, u, rfl, h0, hg, hh, ho⟩ := S1.get e
    refine ⟨.ref p, e1, by rw [sizeLine_eq]; simp, fun p2 hp2 => ?_⟩
    obtain ⟨vs, ht, hr⟩ := Tp.of_own ho
    have ne : p ≠ p2 := by rintro rfl; rw [hh] at hp2; cases hp2
    have hg2 : G1 p2 = none := x.s.back hp2
    refine M.rt (.dp none (.nd .lst [.fz d, .nd tp (ds.map .fz)])) (.ref p2) G1 _ x.g (S.x.trans (x.trans (.hid x.s hp2))) ⟨.ref p2, [p2, p], rfl, fun a e => (by cases e), ⟨p2, _, [v, .ref p], [p], rfl, rfl, S1.x.h.back hp2, hg2, upd_same, rfl, ?_⟩, by simp [Ne.symm ne]⟩ q
    exact ⟨v, [.ref p], [], [p], rfl, rfl, ⟨rfl, r⟩, .ref p, [], [p], [], rfl, by simp, ⟨p, u, vs, [], rfl, rfl, h0, hg, by rw [upd_ne ne]; exact hh, ht, RepOL.of_fz hr⟩, rfl, rfl⟩
/-! ### the object at the end of a way changes -/
/-- what stood below stays -/
theorem RepOL.upd_at {l : List O} {vs : List V} {B : List Addr} {p : Addr} {u' : HO} (h : RepOL K H0 G H l vs B) (np : p ∉ B) : RepOL K H0 G (upd H p u') l vs B :=
  RepOL.map (.refl _) _ _ _ h fun q hq => ⟨(RepOL.there _ _ _ h q hq).2.1, upd_ne (by rintro rfl; exact np hq)⟩
theorem St.nd_put (S : St K G0 H0 ρ G σ H) {Ga Ha : Hp} (xa : Ext G H Ga Ha) {tp tp' : Tp} {l l' : List O} {v0 v : V} (e : ρ[i]? = some (.dp x o)) (e1 : σ[i]? = some (some v0)) (hp : PathV Ha o π v0 v) (ho : o.at π = some (.nd tp l)) :
    ∃ p u vs B, v = .ref p ∧ Ha p = some u ∧ tp.ho vs u ∧ vs.length = l.length ∧ (∀ u', RepOL K H0 Ga (upd Ha p u') l vs B) ∧ (∀ q ∈ B, q ≠ p ∧ H q ≠ none) ∧ H p ≠ none ∧ ∀ (u' : HO) (vs' : List V) (C : List Addr), tp'.ho vs' u' → (∀ q ∈ C, H q = none) → C.Nodup → RepOL K H0 Ga (upd Ha p u') l' vs' (B ++ C) →
      St K G0 H0 (ρ.set i (.dp x (o.put π (.nd tp' l')))) Ga σ (upd Ha p u') := by
  obtain ⟨A', hr, nd, hA, f⟩ := S.putP xa e e1 hp ho
  obtain ⟨p, u, vs, B, rfl, rfl, h0, hg, hh, ht, hl⟩ := hr
  obtain ⟨np, nB⟩ := List.nodup_cons.mp nd
  refine ⟨p, u, vs, B, rfl, hh, ht, hl.len, fun u' => hl.upd_at np, fun q hq => ⟨by rintro rfl; exact np hq, hA q (List.mem_cons_of_mem _ hq)⟩, hA p List.mem_cons_self, fun u' vs' C ht' hC nC hl' => ?_⟩
  refine f Ga (upd Ha p u') (.nd tp' l') (p :: (B ++ C)) (.refl _) ((S.x.trans xa).mut h0 hg) (fun q h1 h2 h3 => ⟨h2, upd_ne (by rintro rfl; exact h3 List.mem_cons_self)⟩) ⟨p, u', vs', _, rfl, rfl, h0, hg, upd_same, ht', hl'⟩ ?_ fun q hq => ?_
  · refine List.nodup_cons.mpr ⟨fun z => ?_, List.nodup_append.mpr ⟨nB, nC, fun a ha b hb z => ?_⟩⟩
    · rcases List.mem_append.mp z with z | z
      · exact np z
      · exact hA p List.mem_cons_self (hC p z)
    · exact hA a (List.mem_cons_of_mem _ ha) (by rw [z]; exact hC b hb)
  · rcases List.mem_cons.mp hq with rfl | hq
    · exact .inl List.mem_cons_self
    · rcases List.mem_append.mp hq with hq | hq
      · exact .inl (List.mem_cons_of_mem _ hq)
      · exact .inr (hC q hq)
theorem RepOL.fz1 {d : D} {w : V} (r : Rep K G d w) : RepOL K H0 G H [.fz d] [w] [] := ⟨w, [], [], [], rfl, rfl, ⟨rfl, r⟩, rfl, rfl⟩
theorem sv_appP {l : List O} (hp : EvP K ρ te i π) (e : ρ[i]? = some (.dp x o)) (ho : o.at π = some (.nd .lst l)) (h : EvD K ρ ta d) (hl : l.length < 16777216) (q : Δ.nx (ρ.set i (.dp x (o.put π (.nd .lst (l ++ [.fz d])))))) :
    SvD K E ρ (tDrop (tBM K "list" rAppend te (tCons ta tNil))) Δ := fun G0 H0 G σ H N S M =>
  hp G0 H0 G σ H S x o e _ fun v0 v f1 f2 => by
    obtain ⟨p, u, vs, rfl, hg, hh, ht, hn⟩ := S.nd_at e f1 f2 ho
    cases (show u = .lst vs from ht)
    refine ⟨.inl ⟨rfl, vs, SqL.of hh⟩, h G0 H0 G σ H S _ fun w G1 H1 x1 r => ?_⟩
    obtain ⟨p', u', vs', B, e', hh', ht', hn', hl', hB, hne, f⟩ := S.nd_put (tp' := .lst) (l' := l ++ [.fz d]) x1 e f1 (f2.ext x1.h) ho
    cases e'
    rw [x1.h _ _ hh] at hh'; cases hh'
    cases (show HO.lst vs = .lst vs' from ht')
    refine ⟨p, vs, w, rfl, rfl, x1.h _ _ hh, by rw [hn, sizeLine_eq]; exact hl, ?_⟩
    exact M.nx _ G1 σ _ x1.g (f (.lst (vs ++ [w])) (vs ++ [w]) [] rfl (fun q hq => by cases hq) .nil (RepOL.append (hl' _) (.fz1 r))) q
/-- e.f = value, a new field -/
theorem sv_fldP {C : Addr} {f : Str} {ns : List Str} {l : List O} (hc : Cls K C) (hn : NoAttr K C f) (hp : EvP K ρ te i π) (e : ρ[i]? = some (.dp x o)) (ho : o.at π = some (.nd (.ins C ns) l)) (h : EvN K ρ tv o') (q : Δ.nx (ρ.set i (.dp x (o.put π (.nd (.ins C (ns ++ [f])) (l ++ [o']))))))
    (hf : f ∉ ns := by decide +kernel) (hl : ns.length < 1000 := by decide) : SvD K E ρ (sFld K te tv f) Δ := fun G0 H0 G σ H N S M =>
  h G0 H0 G σ H S _ fun w A G1 H1 x1 r nd => by
    refine hp G0 H0 G1 σ H1 (S.ext x1) x o e _ fun v0 v f1 f2 => ?_
    obtain ⟨p, u, vs, B, rfl, hh, ht, hlen, hl', hB, hne, g⟩ := S.nd_put (tp' := .ins C (ns ++ [f])) (l' := l ++ [o']) x1 e f1 f2 ho
    obtain ⟨dx, rfl, h2⟩ := ht
    have th := RepO.there _ _ _ r
    refine ⟨p, C, dx, _, rfl, hh, hc, hn, by rw [List.length_zip, h2]; omega, ?_⟩
    refine M.nx _ G1 σ _ x1.g (g (.ins C dx (putF f w (ns.zip vs))) (vs ++ [w]) A ⟨dx, by rw [putF_zip hf h2], by simp [h2]⟩ (fun q hq => (th q hq).1) nd (RepOL.append (hl' _) ?_)) q
    refine ⟨w, [], A, [], rfl, by simp, RepO.old S.x.h _ _ _ (RepO.map (.refl _) _ _ _ r fun q hq => ⟨(th q hq).2.1, upd_ne ?_⟩), rfl, rfl⟩
    rintro rfl
    exact hne (th q hq).1
/-- e[k] = value on a dict whose values stay -/
theorem sv_dputTP {ty : TE} {ks : List (List Key)} {l : List D} {k : List Key} (hp : EvP K ρ te i π) (e : ρ[i]? = some (.dp x o)) (ho : o.at π = some (.nd (.dt ks) (l.map .fz))) (hv : EvD K ρ tv d) (hk : EvD K ρ ty (.tup (k.map kD))) (hl : ks.length < 16777216)
    (q : Δ.nx (ρ.set i (.dp x (o.put π (.nd (.dt (putKs ks k)) ((putVs ks l k d).map .fz)))))) : SvD K E ρ (sDPut te ty tv) Δ := fun G0 H0 G σ H N S M =>
  hv G0 H0 G σ H S _ fun v G1 H1 x1 r1 => by
    have S1 := S.ext x1
    refine hp G0 H0 G1 σ H1 S1 x o e _ fun v0 v' f1 f2 => ?_
    obtain ⟨p, u, vs, rfl, hg, hh, ht, hn⟩ := S1.nd_at e f1 f2 ho
    obtain ⟨rfl, h2⟩ := ht
    refine hk G0 H0 G1 σ H1 S1 _ fun y G2 H2 x2 r2 => ?_
    obtain ⟨b, us, rfl, hb, r3⟩ := r2
    rw [repL_kD r3] at hb
    obtain ⟨e4, e5⟩ := putK_zip (ks := ks) (vs := vs) (k := k) (v := v) h2
    obtain ⟨p', u', vs', B, e', hh', ht', hn', hl', hB, hne, f⟩ := S1.nd_put (tp' := .dt (putKs ks k)) (l' := (putVs ks l k d).map .fz) x2 e f1 (f2.ext x2.h) ho
    cases e'
    rw [x2.h _ _ hh] at hh'; cases hh'
    obtain ⟨e6, _⟩ := ht'
    injection e6 with e6
    have h3 : vs'.length = ks.length := by rw [hn', ← hn, h2]
    cases zip_inj e6 h2 h3
    refine ⟨p, _, rfl, DPut.t (x2.h _ _ hh) (x2.s _ _ hb) (by rw [List.length_zip, h2, sizeLine_eq]; omega), ?_⟩
    refine M.nx _ G2 σ _ (x1.g.trans x2.g) (f _ (putVs ks vs k v) [] ⟨by rw [e4], e5⟩ (fun q hq => by cases hq) .nil ?_) q
    obtain ⟨h4, rfl⟩ := (hl' (.dK [])).to_fz
    exact RepOL.of_fz (putVs_rep h4 (Rep.mono x2.g _ _ r1))
theorem sv_dputKP {ty : TE} {ks : List Key} {l : List D} {k : Key} (hp : EvP K ρ te i π) (e : ρ[i]? = some (.dp x o)) (ho : o.at π = some (.nd (.dk ks) (l.map .fz))) (hv : EvD K ρ tv d) (hk : EvD K ρ ty (kD k)) (hl : ks.length < 16777216)
    (q : Δ.nx (ρ.set i (.dp x (o.put π (.nd (.dk (putKs ks k)) ((putVs ks l k d).map .fz)))))) : SvD K E ρ (sDPut te ty tv) Δ := fun G0 H0 G σ H N S M =>
  hv G0 H0 G σ H S _ fun v G1 H1 x1 r1 => by
    have S1 := S.ext x1
    refine hp G0 H0 G1 σ H1 S1 x o e _ fun v0 v' f1 f2 => ?_
    obtain ⟨p, u, vs, rfl, hg, hh, ht, hn⟩ := S1.nd_at e f1 f2 ho
    obtain ⟨rfl, h2⟩ := ht
    refine hk G0 H0 G1 σ H1 S1 _ fun y G2 H2 x2 r2 => ?_
    rw [rep_kD r2]
    obtain ⟨e4, e5⟩ := putK_zip (ks := ks) (vs := vs) (k := k) (v := v) h2
    obtain ⟨p', u', vs', B, e', hh', ht', hn', hl', hB, hne, f⟩ := S1.nd_put (tp' := .dk (putKs ks k)) (l' := (putVs ks l k d).map .fz) x2 e f1 (f2.ext x2.h) ho
    cases e'
    rw [x2.h _ _ hh] at hh'; cases hh'
    obtain ⟨e6, _⟩ := ht'
    injection e6 with e6
    have h3 : vs'.length = ks.length := by rw [hn', ← hn, h2]
    cases zip_inj e6 h2 h3
    refine ⟨p, _, rfl, DPut.k (x2.h _ _ hh) (by rw [List.length_zip, h2, sizeLine_eq]; omega), ?_⟩
    refine M.nx _ G2 σ _ (x1.g.trans x2.g) (f _ (putVs ks vs k v) [] ⟨by rw [e4], e5⟩ (fun q hq => by cases hq) .nil ?_) q
    obtain ⟨h4, rfl⟩ := (hl' (.dK [])).to_fz
    exact RepOL.of_fz (putVs_rep h4 (Rep.mono x2.g _ _ r1))
end
end PL

set_option Elab.async false
set_option linter.all false
set_option maxRecDepth 100000
set_option maxHeartbeats 1000000
/-! DL8: constructors, try around one call, what a suite asks of its exception. -/
namespace L2
open PySem PySem.Spec PyProof.Rows
section
variable {X : Cx} {CX : CXT} {k : Nat} {f C : Addr} {fd : FuncData} {ps : List Str} {ds : List Value} {dvs : List V} {sp : Sp} {E : St → XK} {x m : Str} {p pos apos : Pos} {e o : Expr} {es : List Expr} {ta : TE} {t : TA}
/-- a constructor whose exceptions are wished for at the slots -/
def tMakeS (C : Addr) (sp : Sp) (dvs : List V) (E : St → XK) (t : TA) : TE := fun σ H Q => tMake C sp dvs (E σ) t σ H Q
theorem pe_makeS (M : Mk X.K C f) (F : FnOk X.prog X.w X.K X.mg X.base CX k f fd ps sp) (hr : Room (k + 1) X.A) (hg : Gl X x) (hm : X.mg x = some (.ref C)) (hb : Binds X.K fd ps ds) (hd : Vals dvs ds) (hx : ∀ σ, PassesAt CX X σ (E σ))
    (ha : PA X (e :: es) t) (hdb : (x == ("__debug__" : Str)) = false := by decide) (he : starEach (e :: es) X.env = (false, eval e X.env) :: starEach es X.env := by rfl) (hpl : (backTo pos (starEach es X.env)).any (·.1) = false := by rfl) :
    PE X (.Call (.Name x p) (e :: es) [] pos) (tMakeS C sp dvs E t) := by
  refine ⟨fun pins s σ H Q I h => ?_⟩
  refine wpAny_Call_Name_kw (ld_glob I hg hm ?_ hdb)
  refine PySem.W.callWith_K (h₀ := X.base) I.ok.mod.kin M.kp (thn (ha.run pos pins s σ H _ I h) fun us s1 ⟨vs, H1, I1, r, q⟩ => ⟨I1.kIn, ?_⟩) he hpl
  have hq := q (s1.heap.objs.size + 1) s1.heap.objs.size (I1.hok.fresh (Nat.le_succ _)) (I1.hok.fresh (Nat.le_refl _)) (Nat.ne_of_lt (Nat.lt_succ_self _))
  have I2 := Inv.made (C := C) I1
  have r2 : Vals (V.ref (s1.heap.objs.size + 1) :: (vs ++ dvs)) (Value.ref (s1.heap.objs.size + 1) :: (us ++ ds)) := .cons rfl (r.append hd)
  have hl : (Value.ref (s1.heap.objs.size + 1) :: us ++ ds).length = ps.length := by
    have e := r2.length
    rw [F.len _ _ _ _ hq] at e
    exact e.symm
  refine wpAny_call (make_map (f := f) I1.kIn M.makes M.init (beq_iff_eq.mp M.fn) (codeAny_mono (F.run _ X.stack _ _ ⟨Value.ref (s1.heap.objs.size + 1) :: us, []⟩ (Value.ref (s1.heap.objs.size + 1) :: (us ++ ds)) _ _ (E σ) (hr.make C us [])
    (I2.env0.make C us []) (hb _ (Value.ref (s1.heap.objs.size + 1) :: us) I2.kIn hl) r2 hq) fun r s' hq' => ?_))
  cases r with
  | error e => exact hx σ pins _ _ e s' I2 hq'
  | ok fl =>
    cases fl with
    | ret u =>
      obtain ⟨v, H', I3, rv, ev, q3⟩ := I2.after hq'
      subst ev
      exact ⟨rv, ⟨V.ref (s1.heap.objs.size + 1), H', I3, rfl, q3⟩⟩
    | next => exact False.elim hq'
    | brk => exact False.elim hq'
    | cont => exact False.elim hq'
/-- isinstance(e, c), e the exception that the suite holds, with its own dict -/
def rIsX (K : PySem.W.Frag) (a : Addr) (cls : Value) (d : Option Addr) : List V → Hp → VK → Prop := fun xs H Q => ∃ (D : Addr) (c : V) (cv : Value) (b : Bool) (dd : Addr) (fs : List (Str × V)), cls = .ref D ∧ ExcC K D ∧ d = some dd ∧ H dd = some (.xd fs) ∧
  xs = [.ref a, c] ∧ (∀ u, RelV c u → u = cv) ∧ PySem.W.kitOne K (.ref D) cv = some b ∧ Q (.bl b) H
theorem call_isX {X : Cx} {a : Addr} {oe : Obj} {cls : Value} {d : Option Addr} {pn : List (Addr × Obj)} (hz : Zc cls d oe) (hf : ∃ vs, oe.data = .fields vs) : CallR (X.suite a ((a, oe) :: pn)) (.builtin "isinstance") (rIsX X.K a cls d) := by
  intro pins s σ H xs us Q I r h
  obtain ⟨D, c, cv, b, dd, fs, ec, C, ed, hdd, rfl, hcv, e, q⟩ := h
  subst ec ed
  cases r with
  | cons rx rr =>
    cases rr with
    | cons rt rr =>
      cases rr
      cases rx
      have ec := hcv _ rt
      subst ec
      obtain ⟨hget, _⟩ := I.pin (a, oe) (List.mem_append.mpr (.inl List.mem_cons_self))
      obtain ⟨vs, hv⟩ := hf
      have hx : ObjOk X.prog X.w H s.heap dd (.xd fs) := I.hok dd _ hdd
      obtain ⟨mA, hns, hr⟩ := hx
      obtain ⟨od, ho, hl⟩ := lookIn_ns hns
      have J : PySem.W.InstAt s.heap a oe D (some od) := ⟨hget, hz.1, by unfold PySem.W.notCls; rw [hv] <;> rfl, by rw [hz.2]; exact ho⟩
      obtain ⟨cdD, hcD, _⟩ := PySem.W.any_some C.hd
      exact PySem.W.kia_one (PySem.W.kitx_exc (by rw [hcD]; rfl) C.hg C.hk C.hs C.ha C.hn C.ht C.hm) I.kIn J e (fun z => nomatch z) fun tk => ⟨.bl b, H, I.kept (t' := tk) fun _ _ z => z, rfl, q⟩
end
end L2
namespace PL
open PySem PySem.Spec PyProof.Rows L2
/-- how a constructor ends: the object as it is then, or an exception -/
inductive OutI where
  | ret (o : O) | exc (C : Addr) (ns : List Str) (l : List D)
def spI (K : PySem.W.Frag) (R : O → List D → OutI → Prop) : Sp := fun vs H Q E => ∃ (x : Addr) (vs' : List V) (H1 G : Hp) (o0 : O) (A : List Addr) (ds : List D) (o : OutI), vs = .ref x :: vs' ∧ Ext G H1 G H ∧ RepO K H1 G H o0 (.ref x) A ∧ A.Nodup ∧ RepL K G ds vs' ∧ R o0 ds o ∧
  match o with
  | .ret o1 => ∀ G' H' B, Ext G H1 G' H' → RepO K H1 G' H' o1 (.ref x) B → B.Nodup → Q .non H'
  | .exc C ns l => ∀ dd ws G' H', Ext G H1 G' H' → H1 dd = none → H' dd = some (.xd (ns.zip ws)) → ws.length = ns.length → RepL K H' l ws → E (.ref C) (some dd) H'
def De.ofI (x : Addr) : OutI → De
  | .ret o1 => { nx := fun ρ => ρ[0]? = some (.dp (some x) o1), rt := fun _ => False }
  | .exc C ns l => { nx := fun _ => False, rt := fun _ => False, ex := fun C' ns' l' => C' = C ∧ ns' = ns ∧ l' = l }
section
variable {K : PySem.W.Frag} {E : XK}
theorem bodyI_ok {R : O → List D → OutI → Prop} {Nm : List Str} {n0 : Str} {vs : List V} {Q : VK} {ts : TS} (h : spI K R vs H Q E) (hb : ∀ x o0 ds o, R o0 ds o → SvD K E (.dp (some x) o0 :: wr0 Nm.length ds) ts (De.ofI x o)) :
    ts { nx := fun _ H' => Q .non H', rt := Q } (L2.start (n0 :: Nm) vs) H := by
  obtain ⟨x, vs', H1, G, o0, A, ds, o, rfl, x1, ro, nd, r, hR, q⟩ := h
  have S : St K G H1 (.dp (some x) o0 :: wr0 Nm.length ds) G (L2.start (n0 :: Nm) (.ref x :: vs')) H := by
    refine ⟨x1, A ++ [], ?_, by simpa using nd⟩
    unfold L2.start wr0
    rw [List.length_cons, List.length_cons, Nat.add_sub_add_right, r.len]
    exact ⟨_, _, A, [], rfl, rfl, ⟨.ref x, rfl, fun a e => by cases e; rfl, ro⟩, slots_start _ r⟩
  refine hb x o0 ds o hR G H1 G _ H _ S ?_
  cases o with
  | ret o1 =>
    refine ⟨fun ρ G' σ H' _ S' z => ?_, fun s' v G' H' _ x so z => z.elim, fun _ _ _ _ _ _ z => z.elim, fun _ _ _ _ _ _ z => z.elim, fun _ _ _ _ _ _ _ _ _ _ _ _ _ z => z.elim⟩
    obtain ⟨ov, _, v, B, _, hx, hr, nB⟩ := S'.get (show ρ[0]? = some (.dp (some x) o1) from z)
    rw [hx x rfl] at hr
    exact q G' H' B S'.x hr nB
  | exc C ns l =>
    refine ⟨fun _ _ _ _ _ _ z => z.elim, fun _ _ _ _ _ _ _ z => z.elim, fun _ _ _ _ _ _ z => z.elim, fun _ _ _ _ _ _ z => z.elim, fun C' ns' l' dd ws G' H' _ x h0 h1 h2 h3 z => ?_⟩
    obtain ⟨rfl, rfl, rfl⟩ := z
    exact q dd ws G' H' x h0 h1 h2 h3
variable {P : Program} {w : World} {mg : Str → Option Value} {base : Heap}
theorem fnI_ok {x qual n0 : Str} {st : Stmt} {f : Addr} {fd : FuncData} {Nm ps : List Str} {k : Nat} {R : O → List D → OutI → Prop} (F : Fun K x qual st f fd) (S : FnScope (n0 :: Nm) (n0 :: ps) (defScope st)) (hl : ∀ o0 ds o, R o0 ds o → ds.length = ps.length)
    (hbody : ∀ (cdv : Value) (A : Around) (outer : List Env) (s : Shared) (H : Hp) (E : XK), Room k (A.deeper (envOfC qual (defScope st) s.heap.objs.size f cdv)) →
      ∃ t, PSs (cxOf CX0 P w K mg base (n0 :: Nm) qual (defScope st) f cdv A outer s H E).nox (defBody st) t ∧ ∀ x o0 ds o, R o0 ds o → SvD K E (.dp (some x) o0 :: wr0 Nm.length ds) t (De.ofI x o)) : FnOk P w K mg base CX0 (k + 1) f fd (n0 :: ps) (spI K R) := by
  refine F.ok S (fun vs H Q E h => ?_) (fun cdv A outer s H vs Q E hr h => ?_)
  · obtain ⟨x, vs', H1, G, o0, A, ds, o, rfl, x1, ro, nd, r, hR, q⟩ := h
    rw [List.length_cons, r.len, hl o0 ds o hR]; rfl
  · obtain ⟨t, h1, h2⟩ := hbody cdv A outer s H E hr
    exact ⟨t, h1, bodyI_ok h h2⟩
theorem fnI_okX {x qual n0 : Str} {st : Stmt} {f : Addr} {fd : FuncData} {Nm ps : List Str} {k : Nat} {R : O → List D → OutI → Prop} (F : Fun K x qual st f fd) (S : FnScope (n0 :: Nm) (n0 :: ps) (defScope st)) (hl : ∀ o0 ds o, R o0 ds o → ds.length = ps.length)
    (hbody : ∀ (cdv : Value) (A : Around) (outer : List Env) (s : Shared) (H : Hp) (E : XK), Room k (A.deeper (envOfC qual (defScope st) s.heap.objs.size f cdv)) →
      ∃ t, PSs (cxOf (L2.CX P w) P w K mg base (n0 :: Nm) qual (defScope st) f cdv A outer s H E) (defBody st) t ∧ ∀ x o0 ds o, R o0 ds o → SvD K E (.dp (some x) o0 :: wr0 Nm.length ds) t (De.ofI x o)) : FnOk P w K mg base (L2.CX P w) (k + 1) f fd (n0 :: ps) (spI K R) := by
  refine F.okX S (fun vs H Q E h => ?_) (fun cdv A outer s H vs Q E hr h => ?_)
  · obtain ⟨x, vs', H1, G, o0, A, ds, o, rfl, x1, ro, nd, r, hR, q⟩ := h
    rw [List.length_cons, r.len, hl o0 ds o hR]; rfl
  · obtain ⟨t, h1, h2⟩ := hbody cdv A outer s H E hr
    exact ⟨t, h1, bodyI_ok h h2⟩
end

/-! ### lists lent -/
mutual
def NoL : D → Prop
  | .lst _ => False
  | .scr _ => False
  | .tup l => NoLL l
  | .dk _ l => NoLL l
  | .dt _ l => NoLL l
  | .ins _ _ l => NoLL l
  | _ => True
def NoLL : List D → Prop
  | [] => True
  | d :: ds => NoL d ∧ NoLL ds
end
mutual
def NoLO : O → Prop
  | .fz d => NoL d
  | .nd _ l => NoLOL l
def NoLOL : List O → Prop
  | [] => True
  | o :: os => NoLO o ∧ NoLOL os
end
theorem NoLL.of : ∀ {l : List D}, (∀ d ∈ l, NoL d) → NoLL l
  | [], _ => trivial
  | d :: ds, h => ⟨h d (.head _), NoLL.of fun x hx => h x (.tail _ hx)⟩
theorem NoLOL.of_fz : ∀ {l : List D}, (∀ d ∈ l, NoL d) → NoLOL (l.map .fz)
  | [], _ => trivial
  | d :: ds, h => ⟨h d (.head _), NoLOL.of_fz fun x hx => h x (.tail _ hx)⟩
section
variable {K : PySem.W.Frag} {G H G' H' G0 H0 : Hp} {ρ : List Sl} {σ : L2.St}
mutual
/-- without the lists of L -/
theorem Rep.less {G1 : Hp} (e : ∀ a u, G a = some u → (∀ vs, u ≠ .lst vs) → G1 a = some u) : ∀ (d : D) (v : V), NoL d → Rep K G d v → Rep K G1 d v
  | .non, _, _, h => h
  | .bl _, _, _, h => h
  | .int _, _, _, h => h
  | .str _, _, _, h => h
  | .lst l, v, n, h => by unfold NoL at n; exact n.elim
  | .tup l, v, n, h => by
    unfold NoL at n
    obtain ⟨a, vs, e1, h1, h2⟩ := h
    exact ⟨a, vs, e1, e _ _ h1 (by simp), RepL.less e l vs n h2⟩
  | .dk ks l, v, n, h => by
    unfold NoL at n
    obtain ⟨a, vs, e1, h1, h3, h2⟩ := h
    exact ⟨a, vs, e1, e _ _ h1 (by simp), h3, RepL.less e l vs n h2⟩
  | .dt ks l, v, n, h => by
    unfold NoL at n
    obtain ⟨a, vs, e1, h1, h3, h2⟩ := h
    exact ⟨a, vs, e1, e _ _ h1 (by simp), h3, RepL.less e l vs n h2⟩
  | .ins C ns l, v, n, h => by
    unfold NoL at n
    obtain ⟨a, dx, vs, e1, h1, h3, h2⟩ := h
    exact ⟨a, dx, vs, e1, e _ _ h1 (by simp), h3, RepL.less e l vs n h2⟩
  | .scr l, v, n, h => by unfold NoL at n; exact n.elim
theorem RepL.less {G1 : Hp} (e : ∀ a u, G a = some u → (∀ vs, u ≠ .lst vs) → G1 a = some u) : ∀ (l : List D) (vs : List V), NoLL l → RepL K G l vs → RepL K G1 l vs
  | [], _, _, h => h
  | d :: ds, vs, n, h => by
    unfold NoLL at n
    obtain ⟨v, r, e1, h1, h2⟩ := h
    exact ⟨v, r, e1, Rep.less e d v n.1 h1, RepL.less e ds r n.2 h2⟩
end
mutual
theorem RepO.less {G1 : Hp} (e : ∀ a u, G a = some u → (∀ vs, u ≠ .lst vs) → G1 a = some u) : ∀ (o : O) (v : V) (A : List Addr), NoLO o → RepO K H0 G H o v A → (∀ q ∈ A, G1 q = none) → RepO K H0 G1 H o v A
  | .fz d, v, A, n, h, _ => by
    unfold NoLO at n
    exact ⟨h.1, Rep.less e d v n h.2⟩
  | .nd t l, v, A, n, h, f => by
    unfold NoLO at n
    obtain ⟨p, u, vs, B, rfl, rfl, h0, hg, hh, ht, hl⟩ := h
    exact ⟨p, u, vs, B, rfl, rfl, h0, f p List.mem_cons_self, hh, ht, RepOL.less e l vs B n hl fun q hq => f q (List.mem_cons_of_mem _ hq)⟩
theorem RepOL.less {G1 : Hp} (e : ∀ a u, G a = some u → (∀ vs, u ≠ .lst vs) → G1 a = some u) : ∀ (l : List O) (vs : List V) (A : List Addr), NoLOL l → RepOL K H0 G H l vs A → (∀ q ∈ A, G1 q = none) → RepOL K H0 G1 H l vs A
  | [], _, _, _, h, _ => h
  | o :: os, vs, A, n, h, f => by
    unfold NoLOL at n
    obtain ⟨v, r, A1, A2, rfl, rfl, h1, h2⟩ := h
    exact ⟨v, r, A1, A2, rfl, rfl, RepO.less e o v A1 n.1 h1 fun q hq => f q (List.mem_append_left _ hq), RepOL.less e os r A2 n.2 h2 fun q hq => f q (List.mem_append_right _ hq)⟩
end
/-- what may be lent when only lists are own -/
def lend : D → Bool
  | .dk _ _ => false | .dt _ _ => false | .ins _ _ _ => false | _ => true
/-- G with own lists lent -/
theorem RepBL.lend (e : Ex G H) : ∀ {ds : List D} {vs : List V}, RepBL K G H ds vs → (∀ d ∈ ds, PL.lend d = true) → ∃ L : List Addr, (∀ p ∈ L, G p = none ∧ ∃ ws, H p = some (.lst ws)) ∧ RepL K (fun a => if a ∈ L then H a else G a) ds vs
  | [], _, h, _ => ⟨[], fun p hp => (by cases hp), h⟩
  | d :: ds, _, h, n => by
    obtain ⟨v, r, rfl, h1, h2⟩ := h
    obtain ⟨L, hL, hr⟩ := RepBL.lend e h2 fun x hx => n x (.tail _ hx)
    have up : Ex (fun a => if a ∈ L then H a else G a) H := fun a u ha => by
      by_cases z : a ∈ L
      · simp only [z, if_true] at ha; exact ha
      · simp only [z, if_false] at ha; exact e _ _ ha
    have gu : Ex G (fun a => if a ∈ L then H a else G a) := fun a u ha => by
      by_cases z : a ∈ L
      · rw [(hL a z).1] at ha; cases ha
      · simp only [z, if_false]; exact ha
    rcases h1 with h1 | ⟨p, o, rfl, hg, hh, ho⟩
    · exact ⟨L, hL, v, r, rfl, Rep.mono gu _ _ h1, hr⟩
    · have hd := n d (.head _)
      cases d with
      | lst l =>
        cases o with
        | lst ws =>
          have g2 : Ex (fun a => if a ∈ L then H a else G a) (fun a => if a ∈ p :: L then H a else G a) := fun a u ha => by
            by_cases z : a ∈ p :: L
            · simp only [z, if_true]; exact up _ _ ha
            · have z' : a ∉ L := fun q => z (.tail _ q)
              simp only [z, if_false]; simp only [z', if_false] at ha; exact ha
          refine ⟨p :: L, fun q hq => ?_, .ref p, r, rfl, ⟨p, ws, rfl, ?_, RepL.mono (gu.trans g2) _ _ ho⟩, RepL.mono g2 _ _ hr⟩
          · rcases List.mem_cons.mp hq with rfl | hq
            · exact ⟨hg, ws, hh⟩
            · exact hL q hq
          · simp [hh]
        | _ => exact ho.elim
      | dk ks l => cases hd
      | dt ks l => cases hd
      | ins C ns l => cases hd
      | _ => cases o <;> exact ho.elim
variable {te ta : TE} {t : TA} {d : D} {ds dds : List D} {dvs : List V} {o0 o1 : O} {RI : O → List D → OutI → Prop} {C : Addr} {E : XK} {Δ : De}
theorem made_ext {x dx : Addr} {C : Addr} (e : Ex G H) (hx : H x = none) (hd : H dx = none) (hn : dx ≠ x) : Ext G H G (upd (upd H dx (.own x)) x (.ins C dx [])) :=
  (Ext.hid e hd).trans (.hid (e.mut (e.back hd)) (by rw [upd_ne (Ne.symm hn)]; exact hx))
theorem made_rep {x dx : Addr} {C : Addr} (e : Ex G H) (hx : H x = none) (hd : H dx = none) (hn : dx ≠ x) : RepO K H G (upd (upd H dx (.own x)) x (.ins C dx [])) (.nd (.ins C []) []) (.ref x) [x] :=
  ⟨x, _, [], [], rfl, rfl, hx, e.back hx, upd_same, ⟨dx, rfl, rfl⟩, rfl, rfl⟩
theorem en_make (ha : EvNA K ρ t (ds.map .fz)) (hR : RI (.nd (.ins C []) []) (ds ++ dds) (.ret o1)) (hd : DefD K dds dvs := by exact def0) : EvN K ρ (tMake C (spI K RI) dvs E t) o1 := fun G0 H0 G σ H S Q q =>
  ha G0 H0 G σ H S _ fun vs A G1 H1 x1 r _ => by
    intro x dx hx hdx hn
    obtain ⟨r, _⟩ := r.to_fz
    exact ⟨x, _, H1, G1, _, [x], _, _, rfl, made_ext x1.s hx hdx hn, made_rep x1.s hx hdx hn, by simp, r.append (hd G1), hR, fun G' H' B x2 r2 nB => ⟨rfl, q _ B G' H' (x1.trans x2) (RepO.old x1.h _ _ _ r2) nB⟩⟩
theorem EvA.n (ha : EvA K ρ t ds) : EvNA K ρ t (ds.map .fz) := fun G0 H0 G σ H S Q q => ha G0 H0 G σ H S _ fun vs G1 H1 x r => q vs [] G1 H1 x (RepOL.of_fz r) .nil
/-- own lists are lent, and what is made holds no list -/
theorem en_makeL (ha : EvAB K ρ t ds) (hl : ∀ d ∈ ds, lend d = true) (hR : RI (.nd (.ins C []) []) (ds ++ dds) (.ret o1)) (hn : NoLO o1) (hd : DefD K dds dvs := by exact def0) : EvN K ρ (tMake C (spI K RI) dvs E t) o1 := fun G0 H0 G σ H S Q q =>
  ha G0 H0 G σ H S _ fun vs G1 H1 x1 r => by
    intro x dx hx hdx hne
    obtain ⟨L, hL, r'⟩ := r.lend x1.s hl
    have up : Ex (fun a => if a ∈ L then H1 a else G1 a) H1 := fun a u ha => by
      by_cases z : a ∈ L
      · simp only [z, if_true] at ha; exact ha
      · simp only [z, if_false] at ha; exact x1.s _ _ ha
    have xl : Ext (fun a => if a ∈ L then H1 a else G1 a) H1 (fun a => if a ∈ L then H1 a else G1 a) H1 := .refl up
    refine ⟨x, _, H1, (fun a => if a ∈ L then H1 a else G1 a), _, [x], _, _, rfl, made_ext up hx hdx hne, made_rep up hx hdx hne, by simp, r'.append (hd _), hR, fun G' H' B x2 r2 nB => ⟨rfl, ?_⟩⟩
    have lL : ∀ a ∈ L, ∃ ws, G' a = some (.lst ws) := fun a ha => by
      obtain ⟨_, ws, hw⟩ := hL a ha
      exact ⟨ws, x2.g _ _ (by simp only [ha, if_true]; exact hw)⟩
    have less : ∀ a u, G' a = some u → (∀ vs, u ≠ .lst vs) → (fun a => if a ∈ L then none else G' a) a = some u := fun a u ha hu => by
      by_cases z : a ∈ L
      · obtain ⟨ws, hw⟩ := lL a z
        rw [hw] at ha; cases ha; exact absurd rfl (hu ws)
      · simp only [z, if_false]; exact ha
    refine q (.ref x) B (fun a => if a ∈ L then none else G' a) H' (x1.trans ⟨fun a u ha => ?_, x2.h, fun a u ha => ?_, fun p hp => ?_⟩) (RepO.old x1.h _ _ _ (RepO.less less _ _ _ hn r2 fun p hp => ?_)) nB
    · have z : a ∉ L := fun z => by rw [(hL a z).1] at ha; cases ha
      simp only [z, if_false]
      exact x2.g _ _ (by simp only [z, if_false]; exact ha)
    · by_cases z : a ∈ L
      · simp only [z, if_true] at ha; cases ha
      · simp only [z, if_false] at ha; exact x2.s _ _ ha
    · by_cases z : p ∈ L
      · simp only [z, if_true]; exact (hL p z).1.symm
      · simp only [z, if_false]
        have := x2.n p hp
        simp only [z, if_false] at this
        exact this
    · have := (RepO.there _ _ _ r2 p hp).2.1
      by_cases z : p ∈ L
      · simp only [z, if_true]
      · simp only [z, if_false]; exact this
end
end PL
namespace PL
open PySem PySem.Spec PyProof.Rows L2
/-! ### try around one call -/
section
variable {K : PySem.W.Frag} {G H G' H' G0 H0 : Hp} {ρ : List Sl} {σ : L2.St} {te ta : TE} {t : TA} {d : D} {ds dds : List D} {dvs : List V} {o0 o1 : O} {RI : O → List D → OutI → Prop} {C : Addr} {E : XK} {Δ : De} {c : Value} {i : Nat} {tb : WX → TS} {ts : Addr → Value → Option Addr → TS} {Wout : WX} {ns : List Str} {l : List D}
theorem en_makeS {W : L2.St → XK} (h : ∀ E : XK, EvN K ρ (tMake C (spI K RI) dvs E t) o1) : EvN K ρ (tMakeS C (spI K RI) dvs W t) o1 := fun G0 H0 G σ H S Q q => h (W σ) G0 H0 G σ H S Q q
theorem sv_try_ret (h : ∀ W, SvD K E ρ (tb W) Δ) : SvD K E ρ (fun D σ H => tb (wAs K c i ts Wout D) D σ H) Δ := fun G0 H0 G σ H N S M => h _ G0 H0 G σ H N S M
/-- the body raises at once, at the slots ρ -/
def BodyX (K : PySem.W.Frag) (ρ : List Sl) (tb : WX → TS) (C : Addr) (ns : List Str) (l : List D) : Prop := ∀ (G0 H0 G : Hp) (σ : L2.St) (H : Hp) (N : Ends) (W : WX), St K G0 H0 ρ G σ H →
  (∀ dd ws G1 H1, Ext G H G1 H1 → H dd = none → H1 dd = some (.xd (ns.zip ws)) → ws.length = ns.length → RepL K H1 l ws → W (.ref C) (some dd) σ H1) → tb W N σ H
theorem bx_make {C' : Addr} {g : TG} (ha : EvAW K ρ t ds) (hR : RI (.nd (.ins C' []) []) (ds ++ dds) (.exc C ns l)) (hd : DefD K dds dvs := by exact def0) : BodyX K ρ (fun W => tAsg (tMakeS C' (spI K RI) dvs (WE W) t) g) C ns l := fun G0 H0 G σ H N W S q =>
  ha G0 H0 G σ H S _ fun vs G1 H1 x1 r => by
    intro x dx hx hdx hne
    exact ⟨x, _, H1, H1, _, [x], _, _, rfl, made_ext (.refl _) hx hdx hne, made_rep (.refl _) hx hdx hne, by simp, r.append (hd _), hR, fun dd ws G2 H2 x2 h0 h1 h2 h3 => q dd ws G1 H2 (x1.grow x2.h) (x1.h.back h0) h1 h2 h3⟩
theorem RepL.flat : ∀ {l : List D} {vs : List V}, (∀ d ∈ l, PL.flat d = true) → RepL K H l vs → RepL K G l vs
  | [], _, _, h => h
  | d :: ds, _, f, h => by
    obtain ⟨v, r, rfl, h1, h2⟩ := h
    exact ⟨v, r, rfl, h1.flat (f d (.head _)), RepL.flat (fun x hx => f x (.tail _ hx)) h2⟩
theorem sv_try_exc (h : BodyX K ρ tb C ns l) (hm : PySem.W.exmOne K (.ref C) c = some true) (hf : ∀ d ∈ l, flat d = true)
    (hs : ∀ a dd, SvD K E (ρ.set i (.ex a dd ns l)) (ts a (.ref C) (some dd)) { nx := fun ρ' => Δ.nx (ρ'.set i .no), rt := Δ.rt, bk := fun ρ' => Δ.bk (ρ'.set i .no), ct := fun ρ' => Δ.ct (ρ'.set i .no), ex := Δ.ex }) :
    SvD K E ρ (fun D σ H => tb (wAs K c i ts Wout D) D σ H) Δ := fun G0 H0 G σ H N S M =>
  h G0 H0 G σ H N _ S fun dd ws G1 H1 x hdd h1 h2 h3 => by
    refine ⟨true, hm, fun _ a ha => ?_, fun z => by cases z⟩
    have gx : Ex G1 (fun q => if q = dd then H1 dd else G1 q) := fun q u hq => by
      by_cases z : q = dd
      · subst z; simp only [if_true]; exact x.s _ _ hq
      · simp only [z, if_false]; exact hq
    have x2 : Ext G H (fun q => if q = dd then H1 dd else G1 q) H1 := by
      refine ⟨x.g.trans gx, x.h, fun q u hq => ?_, fun q hq => ?_⟩
      · by_cases z : q = dd
        · subst z; simp only [if_true] at hq; exact hq
        · simp only [z, if_false] at hq; exact x.s _ _ hq
      · have z : q ≠ dd := by rintro rfl; exact hq hdd
        simp only [z, if_false]; exact x.n q hq
    have S2 := (S.ext x2).set_a (s := .ex a dd ns l) (v := some (.ref a)) (A := []) ⟨rfl, rfl, ws, by simp [h1], h2, RepL.flat hf h3⟩ .nil (fun _ _ q hq => by cases hq) i
    refine hs a dd G0 H0 _ _ H1 _ S2 ⟨fun ρ' G' σ' H' e S' q => ?_, fun s v G' H' e => M.rt s v G' H' (x2.g.trans e), fun ρ' G' σ' H' e S' q => ?_, fun ρ' G' σ' H' e S' q => ?_, fun C ns l dd vs G' H' e => M.ex C ns l dd vs G' H' (x2.g.trans e)⟩
    · exact M.nx _ G' _ H' (x2.g.trans e) (S'.set_no i) q
    · exact M.bk _ G' _ H' (x2.g.trans e) (S'.set_no i) q
    · exact M.ct _ G' _ H' (x2.g.trans e) (S'.set_no i) q
/-- isinstance(e, an own class or a builtin class) in the suite -/
theorem ev_isx {a dd D' : Addr} {tc : TE} {cv : V} {b : Bool} (e : ρ[i]? = some (.ex a dd ns l)) (hC : ExcC K D') (hc : tc = tC cv) (hv : ∀ u, RelV cv u → ∃ w, u = w ∧ PySem.W.kitOne K (.ref D') w = some b) (hw : ∃ u, RelV cv u) (hu : ∀ u u', RelV cv u → RelV cv u' → u = u') :
    EvD K ρ (tCB (rIsX K a (.ref D') (some dd)) (tCons (tVar i) (tCons tc tNil))) (.bl b) := fun G0 H0 G σ H S Q q => by
  subst hc
  obtain ⟨ov, e1, rfl, vs, h1, h2, h3⟩ := S.get e
  obtain ⟨u, hu1⟩ := hw
  obtain ⟨w, rfl, hk⟩ := hv u hu1
  exact ⟨.ref a, e1, D', cv, u, b, dd, _, rfl, hC, rfl, S.x.s _ _ h1, rfl, fun u' h => hu u' u h hu1, hk, q _ G H (.refl S.x.s) rfl⟩
/-- e.f in the suite -/
theorem ev_xf {a dd : Addr} {f : Str} (k : Nat) (e : ρ[i]? = some (.ex a dd ns l)) (hd : l[k]? = some d) (e1 : ns[k]? = some f := by rfl) (nd : ns.Nodup := by decide +kernel) : EvD K ρ (tXf a (.ref C) (some dd) C f (tVar i)) d := fun G0 H0 G σ H S Q q => by
  obtain ⟨ov, e2, rfl, vs, h1, h2, h3⟩ := S.get e
  obtain ⟨v, hv1, hv2⟩ := RepL.get h3 hd
  exact ⟨.ref a, e2, rfl, rfl, dd, _, v, rfl, S.x.s _ _ h1, lookup_zip nd e1 hv1, q v G H (.refl S.x.s) hv2⟩
end
end PL

set_option Elab.async false
set_option linter.all false
set_option maxRecDepth 100000
set_option maxHeartbeats 1000000
/-! STI: set(list of ints). -/
namespace L2
open PySem PySem.Spec PyProof.Rows
section
variable {P : Program} {w : World} {A : Around} {E : Value → Shared → Prop} {s : Shared}
set_option maxRecDepth 100000 in
set_option maxHeartbeats 3200000 in
theorem call_set_listI {l : Addr} {items : Array Value} (ns : List Int) {Q : Value → Shared → Prop} (hh : A.handled = none) (hl : s.heap.IsList l items) (hit : IntsAre items.toList ns) (hb : ns.length + 1 < scanBound)
    (h : ∀ (h' : Heap) (tk c : Nat), SetR w h' s.heap.objs.size (fun j => decide (j ∈ ns)) c → c ≤ ns.length → (∀ b o, s.heap.get? b = some o → h'.get? b = some o) → Q (.ref s.heap.objs.size) { s with heap := h', toks := tk }) :
    wpAny (model P w) A (call (.type "set") [.ref l]) Q E s := by
  have hisz : items.size = ns.length := by
    have q := IntsAre.length hit
    rw [Array.length_toList] at q
    exact q
  obtain ⟨c, tl, hmro⟩ := F.called_set.mro
  have hmade := F.called_set.made
  have hsub := F.called_set.sub
  refine wpAny_call (codeAny_of_tree ?_)
  show wpAny _ _ (callAny (.type "set") _) _ _ _
  refine wpAny_pure ⟨Code.quiet_builtin _ (by decide +kernel), codeAny_builtin F.entry_type_call ?_⟩
  rw [Around.under_plain (weight_type_call_type "set" [.ref l] []) rfl]
  have h1 := F.called_set.notType
  have h2 := F.called_set.canCreate
  have hct := F.typeCall_set_1 (.ref l)
  repeat (any_goals (first | assumption | wp_step))

  refine codeAny_mono (code_set_led1 (.ref l) (E := E) (Q₁ := fun obj s₁ => obj = .ref s.heap.objs.size ∧ s₁ = { s with heap := s.heap.push { cls := .type "set", dict := none, data := .set #[] 0 (.fresh 0 0 (!w.params.followText "set-order")) } }) ⟨rfl, rfl⟩) fun r s₁ hr => ?_
  cases r with
  | error e => exact hr
  | ok fl =>
    cases fl with
    | ret obj =>
      obtain ⟨rfl, rfl⟩ := hr
      have hS : (s.heap.push { cls := .type "set", dict := none, data := .set #[] 0 (.fresh 0 0 (!w.params.followText "set-order")) }).get? s.heap.objs.size = some { cls := .type "set", dict := none, data := .set #[] 0 (.fresh 0 0 (!w.params.followText "set-order")) } := Heap.get?_push_size _ rfl
      have hT : Shared.TypeIs { s with heap := s.heap.push { cls := .type "set", dict := none, data := .set #[] 0 (.fresh 0 0 (!w.params.followText "set-order")) } } (.ref s.heap.objs.size) "set" := ⟨_, hS, rfl⟩
      have hli := F.called_set.init.lookup
      have hbi := F.called_set.init.bind (.ref s.heap.objs.size)
      repeat (any_goals (first | assumption | wp_step))

      refine codeAny_mono (codeAny_call_builtin (R := wants (fun r s₂ => r = .none ∧ ∃ h' tk c, s₂ = { s with heap := h', toks := tk } ∧ SetR w h' s.heap.objs.size (fun j => decide (j ∈ ns)) c ∧ c ≤ ns.length ∧
          (∀ b o, s.heap.get? b = some o → h'.get? b = some o)) E) F.called_set.init.plain F.entry_set_init (check_set_init_1 hT ?_)) fun r₂ s₂ hr₂ => ?_
      · obtain ⟨ol, hol, hcl, nl, hdl⟩ := hl
        obtain ⟨ocls, odict, odata, oslots⟩ := ol
        simp only at hcl hdl
        subst hcl; subst hdl
        have hol' : (s.heap.push { cls := .type "set", dict := none, data := .set #[] 0 (.fresh 0 0 (!w.params.followText "set-order")) }).get? l = some { cls := .type "list", dict := odict, data := .seq items nl, slots := oslots } := Heap.get?_push_of_some _ hol
        have hsls := F.sub_list_set
        have hslf := F.sub_list_frozenset
        have hne : (Value.type "list" == Value.type "dict") = false := by decide
        have hl1 : (s.heap.push { cls := .type "set", dict := none, data := .set #[] 0 (.fresh 0 0 (!w.params.followText "set-order")) }).IsList l items := ⟨_, hol', rfl, nl, rfl⟩
        unfold Builtin.«set.__init__» noKeywords Builtin.Frozenset.updateFrom
        generalize hPI : pyIter = PI
        wp_walk
        subst hPI

        refine wpAny_pyIter_list hl1 ?_
        refine wpAny_bind (wpAny_runValue ?_)
        have hlS : l < s.heap.objs.size := Heap.lt_size hol
        have hh3 : A.in1.in1.in1.handled = none := by simp [hh]
        have hz1 : (s.heap.push { cls := .type "set", dict := none, data := .set #[] 0 (.fresh 0 0 (!w.params.followText "set-order")) }).objs.size = s.heap.objs.size + 1 := Heap.size_push ..
        have hneI : l ≠ (s.heap.push { cls := .type "set", dict := none, data := .set #[] 0 (.fresh 0 0 (!w.params.followText "set-order")) }).objs.size := by
          rw [Heap.size_push]; exact Nat.ne_of_lt (Nat.lt_succ_of_lt hlS)
        have hSf : s.heap.objs.size ∉ [(s.heap.push { cls := .type "set", dict := none, data := .set #[] 0 (.fresh 0 0 (!w.params.followText "set-order")) }).objs.size, l] := by
          rw [Heap.size_push]; simp only [List.mem_cons, List.mem_singleton, List.not_mem_nil, or_false, not_or]
          exact ⟨Nat.ne_of_lt (Nat.lt_succ_self _), Nat.ne_of_gt hlS⟩
        have hval : ∀ (i : Nat) (v : Value), items[i]? = some v → ∃ k t, ns[i]? = some k ∧ v = .int k t := fun i v hv => by
          have hi : i < ns.length := by rw [← hisz]; exact (Array.getElem?_eq_some_iff.mp hv).1
          obtain ⟨t, e⟩ := PyProof.Rows.IntsAre.int_at hit i v (by rw [Array.getElem?_toList]; exact hv)
          refine ⟨ns[i], t, List.getElem?_eq_getElem hi, ?_⟩
          rw [e, List.getD_eq_getElem?_getD, List.getElem?_eq_getElem hi] <;> rfl
        refine set_update_ints ((Walks.list hh3 _ l hneI items).toS) s.heap.objs.size
          hSf ns hisz hb hval (items.size - 0) 0 _ (by omega) (Nat.zero_le _)
          ⟨⟨_, Heap.get?_push_size _ rfl, rfl, rfl⟩, (hl1.push _)⟩ ?hS0 ?hR
        case hS0 =>
          have hget : ((s.heap.push { cls := .type "set", dict := none, data := .set #[] 0 (.fresh 0 0 (!w.params.followText "set-order")) }).push { cls := .type "list_iterator", data := .fields #[.ref l, .int 0 0] }).get? s.heap.objs.size
              = some { cls := .type "set", dict := none, data := .set #[] 0 (.fresh 0 0 (!w.params.followText "set-order")) } := Heap.get?_push_of_some _ hS
          exact ⟨0, Nat.le_refl 0, setR_new_at hget⟩
        case hR =>
          intro s' c' hm hc' hS'
          obtain ⟨h', g2, d', tk', os'⟩ := s'
          have eg : g2 = s.gens := hm.gens
          have ed : d' = s.drawn := hm.drawn
          have eo : os' = s.os := hm.os
          subst eg; subst ed; subst eo
          show wpAny _ _ _ _ _ _
          refine wpAny_pure ?_
          show wpAny _ _ (ret Value.none) _ _ _
          rw [hisz] at hc'
          refine wpAny_pure ⟨rfl, h', tk', c', rfl, hS', hc', fun b o e => ?_⟩
          have hb0 : b < s.heap.objs.size := Heap.lt_size e
          have hb1 : b ≠ s.heap.objs.size := Nat.ne_of_lt hb0
          have hb2 : b ≠ (s.heap.push { cls := .type "set", dict := none, data := .set #[] 0 (.fresh 0 0 (!w.params.followText "set-order")) }).objs.size := by
            rw [Heap.size_push]; exact Nat.ne_of_lt (Nat.lt_succ_of_lt hb0)
          exact hm.heap b o (by simp only [List.mem_cons, List.mem_singleton, List.not_mem_nil, or_false, not_or]; exact ⟨hb1, hb2⟩) (Heap.get?_push_of_some _ (Heap.get?_push_of_some _ e))

      · cases r₂ with
        | error e => exact hr₂
        | ok fl₂ =>
          cases fl₂ with
          | ret r =>
            obtain ⟨rfl, h', tk, c', rfl, hS', hc', hk'⟩ := hr₂
            repeat (any_goals (first | assumption | wp_step))
            exact h _ _ _ hS' hc' hk'
          | _ => exact hr₂.elim
    | _ => exact hr.elim
end
end L2

set_option Elab.async false
set_option linter.all false
set_option maxRecDepth 100000
set_option maxHeartbeats 1000000
/-! ENT: enumerate(tuple). -/
namespace PySem
open Sem (wp)
theorem meets_enumerate_new1 {v : Value} {o : Obj} {H : Heap → Prop} (B : Begins v o H) :
    Meets (Builtin.«enumerate.__new__» ⟨[.type "enumerate", v], []⟩) (fun _ R s => H s.heap ∧
      R (.ok (.ret (.ref (s.heap.push o).objs.size))) { s with heap := (s.heap.push o).push { cls := .type "enumerate", data := .fields #[.none, .bool false, .ref s.heap.objs.size, rawInt 0, .none, .none] } }) :=
  .of_wp fun prog w A R s h => by
    obtain ⟨hp, g, d, tk, os⟩ := s
    obtain ⟨h1, h⟩ := h
    have hsub := sub_enumerate
    have q1 : ∀ {A' : Around} {E : Value → Shared → Prop} {Q : Value → Shared → Prop}, Q (.ref hp.objs.size) ⟨hp.push o, g, d, tk, os⟩ → wpAny (model prog w) A' (pyIter v) Q E ⟨hp, g, d, tk, os⟩ :=
      fun q => B.iter prog w _ _ ⟨hp, g, d, tk, os⟩ _ h1 q
    wp_walk using q1
    refine wpAny_stack_any fun st => wpAny_pure ?_
    split
    · rename_i c _ _ _ _ _
      cases (c == Value.type "enumerate")
      · wp_walk using q1
        exact ⟨_, rfl, h⟩
      · wp_walk using q1
        exact ⟨_, rfl, h⟩
    · wp_walk using q1
      exact ⟨_, rfl, h⟩
section
variable {prog : Program} {w : World} {A : Around} {E : Value → Shared → Prop} {s : Shared}
theorem enum_begins1 {v : Value} {o : Obj} {H : Heap → Prop} {Q : Value → Shared → Prop} (B : Begins v o H) (h1 : H s.heap)
    (h : ∀ h', IsEnum h' (s.heap.objs.size + 1) s.heap.objs.size 0 .none → h'.get? s.heap.objs.size = some o → h'.objs.size = s.heap.objs.size + 2 →
      (∀ b o, s.heap.get? b = some o → h'.get? b = some o) → Q (.ref (s.heap.objs.size + 1)) { s with heap := h' }) :
    wpAny (model prog w) A (call (.type "enumerate") [v]) Q E s := by
  refine callType_new F.called_enumerate (by decide) (F.typeCall_enumerate_1 _) (F.newCall_enumerate_1 _) (fun obj => F.args_object_init_2 obj _) F.entry_enumerate_new
    (meets_enumerate_new1 B) ⟨h1, ?_⟩
  have hz : (s.heap.push o).objs.size = s.heap.objs.size + 1 := Heap.size_push ..
  show _ ∧ _
  rw [hz]
  have he : IsEnum ((s.heap.push o).push { cls := .type "enumerate", data := .fields #[.none, .bool false, .ref s.heap.objs.size, rawInt 0, .none, .none] }) (s.heap.objs.size + 1) s.heap.objs.size 0 .none := by
    have := Heap.get?_push_size (s.heap.push o) (o := { cls := .type "enumerate", data := .fields #[.none, .bool false, .ref s.heap.objs.size, rawInt 0, .none, .none] }) rfl
    rw [hz] at this; exact this
  exact ⟨⟨_, he, rfl⟩, h _ he (Heap.get?_push_of_some _ (Heap.get?_push_size _ B.free)) (by rw [Heap.size_push, hz]) fun b o x => Heap.get?_push_of_some _ (Heap.get?_push_of_some _ x)⟩
end
end PySem
namespace L2
open PySem PySem.Spec PyProof.Rows
/-- the tuple at a, each item in a new pair -/
def IteT (K : PySem.W.Frag) (a : Addr) : It :=
  ⟨fun i H => ∃ (xs : List V) (x : V), SqT K H a xs ∧ xs[i]? = some x, fun i H v H' => ∃ T x, v = .ref T ∧ H T = none ∧ H' = upd H T (.tup [.int (i : Nat), x]) ∧ ∀ xs, SqT K H a xs → xs[i]? = some x, fun i H => ∃ xs : List V, SqT K H a xs ∧ xs.length ≤ i⟩
theorem turn_enumT {P : Program} {w : World} {K : PySem.W.Frag} {elts : List Expr} {kk : Nat} {tpos : Pos} (a e it : Addr) :
    Turn P w K (.Tuple elts kk tpos) (IteT K a) [e, it] e (fun i h => (∃ old, IsEnum h e it ((i : Nat) : Int) old) ∧ h.IsTupleIter it a i ∧ e ≠ it ∧ e ≠ a ∧ a ≠ it) where
  mem := by simp
  obj := fun i h st b hb => by
    obtain ⟨⟨old, he⟩, ⟨o, ho, hc, hd⟩, _⟩ := st
    have e' : b = e ∨ b = it := by simpa using hb
    rcases e' with z | z
    · rw [z]; exact ⟨_, he, fun v q => nomatch q⟩
    · rw [z]; exact ⟨o, ho, fun v q => by rw [hd] at q; cases q⟩
  keep := fun i h h' st k => let ⟨⟨old, he⟩, hi, hne⟩ := st; ⟨⟨old, k e (by simp) _ he⟩, hi.at fun o q => k it (by simp) o q, hne⟩
  item := by
    intro X hP hw hK hc i pins s σ H E I hf st hg
    subst hP hw hK
    obtain ⟨⟨old, he⟩, hit, hne, hea, hai⟩ := st
    obtain ⟨xs, x, hq, hx⟩ := hg
    obtain ⟨its, rv, p, hz⟩ := I.tuple hq
    obtain ⟨u, hu, ru⟩ := rv.get hx
    have hel : e < s.heap.objs.size := Heap.lt_size he
    have hil : it < s.heap.objs.size := by obtain ⟨_, q, _⟩ := hit; exact Heap.lt_size q
    have hu' : its.toArray[i]? = some u := by simpa using hu
    refine wpAny_pyNext_enum_itemD (Draws.tuple (show X.A.in1.handled = none from I.ok.hd hc) it a hai its.toArray) he ⟨hit, p⟩ (Array.getElem?_eq_some_iff.mp hu').1 hne (by simp; exact ⟨hne, hea⟩) fun x' h' tk hP ho hit' hT hsz hk => ?_
    rw [hu'] at hP; cases hP
    refine ⟨_, rfl, wpAny_letOwnedTupleGo_enum (s := { s with heap := h', toks := tk + 1 }) ho fun h'' he' sb => ?_⟩
    have hT2 : h''.get? s.heap.objs.size = some { cls := .type "tuple", data := .seq #[.int i tk, u] } := (sb.2 _ (Nat.ne_of_gt hel)).trans hT
    have new : ObjOk X.prog X.w (upd H s.heap.objs.size (.tup [.int (i : Nat), x])) h'' s.heap.objs.size (.tup [.int (i : Nat), x]) :=
      ⟨by show 2 ≤ sizeLine; decide, [.int i tk, u], .cons ⟨_, rfl⟩ (.cons ru .nil), ⟨_, hT2, rfl, _, rfl⟩⟩
    have I1 : Inv X pins σ (upd H s.heap.objs.size (.tup [.int (i : Nat), x])) { s with heap := h'', toks := tk + 1 } :=
      I.turnedNew (ch := [e, it]) (fun b ob hb q => (sb.2 b (fun z => hb (by simp [z]))).trans (hk b ob (fun z => hb (by simp [z])) (fun z => hb (by simp [z])) q)) hf (Nat.le_refl _) new
    refine ⟨.ref s.heap.objs.size, _, I1, rfl, ⟨_, x, rfl, I.hok.fresh (Nat.le_refl _), rfl, fun ys hy => by rw [I.tuple_inj hy hq]; exact hx⟩, ⟨⟨u, ?_⟩, hit'.1.at fun o q => (sb.2 it (Ne.symm hne)).trans q, hne, hea, hai⟩, fun b hb => ?_⟩
    · have e1 : ((i + 1 : Nat) : Int) = (i : Int) + 1 := by omega
      rw [e1]; exact he'
    · have hb' : b < s.heap.objs.size := by
        have e' : b = e ∨ b = it := by simpa using hb
        rcases e' with z | z
        · rw [z]; exact hel
        · rw [z]; exact hil
      rw [upd_ne (Nat.ne_of_lt hb')]
      exact (hf b hb).1
  done := by
    intro X hP hw hK hc i pins s σ H E I hf st hg
    subst hP hw hK
    obtain ⟨⟨old, he⟩, hit, hne, hea, hai⟩ := st
    obtain ⟨xs, hq, hx⟩ := hg
    obtain ⟨its, rv, p, hz⟩ := I.tuple hq
    obtain ⟨f0, f1, f2, f3, f4, f5⟩ := hf it (by simp)
    have hl := rv.length
    have hi : its.toArray[i]? = none := by simp; omega
    have D : Draws X.prog X.w X.A.in1 it [it, a] i (fun _ _ => True) (fun j h => j = i ∧ h.IsTupleIter it a i ∧ h.IsTuple a its.toArray) := {
      live := fun _ _ st => let ⟨o, ho, _⟩ := st.2.1; ⟨o, ho⟩
      frame := fun _ _ _ st hk => ⟨st.1, st.2.1.at fun o e => hk it (by simp) o e, st.2.2.at fun o e => hk a (by simp) o e⟩
      item := fun j s Q E hj st hQ => by obtain ⟨rfl, _⟩ := st; exact absurd hj (Nat.lt_irrefl _)
      done := fun s Q E st hE => wpAny_nextOf_tuple_end (show X.A.in1.handled = none from I.ok.hd hc) st.2.1 st.2.2 hi hE }
    exact wpAny_pyNext_enum_endD D he ⟨rfl, hit, p⟩ fun h' eb => ⟨rfl, I.turned (t' := s.toks) (fun b o hb q => eb b o hb q) f0 f1 f3 f4 f5⟩
  self := fun A i s Q E st h => let ⟨⟨_, he⟩, _⟩ := st; wpAny_pyIter_enum he h
def iEnumT (K : PySem.W.Frag) (ta : TA) : TI := fun σ H R => ta σ H fun vs H1 => ∃ a xs, vs = [.ref a] ∧ SqT K H1 a xs ∧ R (IteT K a) H1
theorem pi_enumT {X : Cx} {e : Expr} {ta : TA} {p pos tpos : Pos} {elts : List Expr} {kk : Nat} (hg : Gl X "enumerate") (hm : X.mg "enumerate" = none) (ha : PA X [e] ta) (hs : starEach [e] X.env = [(false, eval e X.env)] := by rfl) :
    PI X (.Tuple elts kk tpos) (.Call (.Name "enumerate" p) [e] [] pos) (iEnumT X.K ta) := by
  refine ⟨fun pins s σ H R I h => ?_⟩
  refine Call_ (ld_blt I hg hm boot_enumerate (PyProof.Rows.callWith_type1 (thn (ha.run pos pins s σ H _ I h) fun us s1 ⟨vs, H1, I1, r1, q1⟩ => ?_) hs rfl))
  obtain ⟨a, xs, ex, hq, q⟩ := q1
  subst ex
  cases r1 with
  | cons r rr =>
    cases rr
    cases r
    obtain ⟨its, rv, p', hz⟩ := I1.tuple hq
    have ha : a < s1.heap.objs.size := by obtain ⟨o, ho, _⟩ := p'; exact Heap.lt_size ho
    refine enum_begins1 (begins_tuple a its.toArray) p' fun h' he hit hsz hk => wpAny_pyIter_enum he ?_
    have I2 : Inv X pins σ H1 { s1 with heap := h' } := I1.kept (t' := s1.toks) hk
    refine ⟨s1.heap.objs.size + 1, [s1.heap.objs.size + 1, s1.heap.objs.size], _, _, H1, rfl, I2, turn_enumT a (s1.heap.objs.size + 1) s1.heap.objs.size, ⟨⟨.none, he⟩, ⟨_, hit, rfl, rfl⟩, Nat.succ_ne_self _, Nat.ne_of_gt (Nat.lt_succ_of_lt ha), Nat.ne_of_lt ha⟩, fun b hb => ?_, q⟩
    have e' : b = s1.heap.objs.size + 1 ∨ b = s1.heap.objs.size := by simpa using hb
    have hle : s1.heap.objs.size ≤ b := by
      rcases e' with z | z
      · rw [z]; exact Nat.le_add_right _ _
      · rw [z]; exact Nat.le_refl _
    exact I1.fpOk hle (I1.hok.fresh hle)
end L2

set_option Elab.async false
set_option linter.all false
set_option maxRecDepth 100000
set_option maxHeartbeats 1000000
/-! DL9: sets of ints sorted, enumerate over tuples, methods, defaults, calls of instances. -/
namespace L2
open PySem PySem.Spec PyProof.Rows
/-- set(list of ints) -/
def rSetI (K : PySem.W.Frag) (w : World) : List V → Hp → VK → Prop := fun xs H Q => ∃ (l : Addr) (ns : List Int), xs = [.ref l] ∧ SqL K H l (ns.map V.int) ∧ ns.length + 1 < scanBound ∧
  ∀ p n, H p = none → n ≤ ns.length → Q (.ref p) (upd H p (SetO w p (fun j => decide (j ∈ ns)) n))
theorem call_setI {X : Cx} (hc : X.calm = true) : CallR X (.type "set") (rSetI X.K X.w) := by
  intro pins s σ H xs us Q I r h
  obtain ⟨l, ns, rfl, hq, hb, q⟩ := h
  obtain ⟨its, rv, pl, hz⟩ := I.list hq
  rw [Vals.ref1 r]
  refine call_set_listI ns (I.ok.hd hc) pl.isList (by simpa using rv.ints) hb fun h' tk c R hc' k => ?_
  have hn : H s.heap.objs.size = none := I.hok.fresh (Nat.le_refl _)
  exact ⟨.ref _, _, I.laid (t' := tk) k (Nat.le_refl _) (setO_new R), rfl, q _ c hn hc'⟩
theorem walk_enumT {K : PySem.W.Frag} {a : Addr} {xs : List V} : Walk (IteT K a) xs.length (fun H => SqT K H a xs) (YPair (fun i => some (.int (i : Nat))) (fun i => xs[i]?)) := by
  refine ⟨fun i _ hi q => ⟨xs, xs[i], q, by simp [hi]⟩, fun _ q => ⟨xs, q, Nat.le_refl _⟩, fun i H v H' _ q y => ?_⟩
  obtain ⟨T, x, h1, h2, h3, h4⟩ := y
  exact ⟨T, .int (i : Nat), x, h1, h2, h3, rfl, h4 xs q⟩
end L2
namespace PL
open PySem PySem.Spec PyProof.Rows L2
theorem b_sorted : bootBuiltins "sorted" = some (.builtin "sorted") := by decide +kernel
theorem b_set : bootBuiltins "set" = some (.type "set") := by decide +kernel
/-- try: body / except c as n: suite, where the suite takes all that the body lets out -/
abbrev tTryA (K : PySem.W.Frag) (c : Value) (i : Nat) (tb : WX → TS) (ts : Addr → Value → Option Addr → TS) : TS := fun D σ H => tb (wAs K c i ts (fun _ _ _ _ => False) D) D σ H
/-- tCallO without its context -/
def tOC (C : Addr) (sp : Sp) (E : XK) (tf : TE) (t : TA) : TE := fun σ H Q => tf σ H fun y H1 => ∃ a, y = V.ref a ∧ t σ H1 fun vs H2 => ((∃ dx vs, SlX.Slt H2 a C dx vs) ∨ ∃ dx fs, H2 a = some (.ins C dx fs)) ∧ sp (V.ref a :: vs) H2 Q E
section
variable {K : PySem.W.Frag} {G H G' H' G0 H0 : Hp} {ρ : List Sl} {σ : L2.St} {te ta : TE} {t : TA} {d : D} {ds dds : List D} {dvs : List V} {E : XK} {Δ : De}
theorem ef_sortedSet {w : World} {ns m : List Int} (h : EvB K ρ te (.lst (ns.map .int))) (hm : m.Pairwise (· < ·)) (hk : ∀ k, k ∈ m ↔ k ∈ ns) (hl : ns.length < 64) :
    EvF K ρ (tCB (rSortedSet w) (tCons (tCB (rSetI K w) (tCons te tNil)) tNil)) (.lst (m.map .int)) := fun G0 H0 G σ H S Q q =>
  h G0 H0 G σ H S _ fun v G1 H1 x r => by
    obtain ⟨a, vs, rfl, ha, hr⟩ := r.lst x.s
    cases hr.ints
    refine ⟨a, ns, rfl, SqL.of ha, by unfold scanBound; omega, fun p n hp hn => ⟨p, _, n, rfl, upd_same, by omega, fun ms p2 hms hmk hml hp2 => ?_⟩⟩
    have hne : p2 ≠ p := by rintro rfl; rw [upd_same] at hp2; cases hp2
    rw [upd_ne hne] at hp2
    have e : ms = m := by
      have a1 : ms.Pairwise (fun a b => a ≤ b) := hms.imp fun h => Int.le_of_lt h
      have a2 : m.Pairwise (fun a b => a ≤ b) := hm.imp fun h => Int.le_of_lt h
      have n1 : ms.Nodup := hms.imp fun h => Int.ne_of_lt h
      have n2 : m.Nodup := hm.imp fun h => Int.ne_of_lt h
      refine List.Perm.eq_of_pairwise (fun a b _ _ h1 h2 => Int.le_antisymm h1 h2) a1 a2 ?_
      refine (List.perm_ext_iff_of_nodup n1 n2).mpr fun k => ?_
      rw [hmk, hk]; simp
    subst e
    have x2 : Ext G1 H1 G1 (upd H1 p (SetO w p (fun j => decide (j ∈ ns)) n)) := .hid x.s hp
    have x3 : Ext G1 (upd H1 p (SetO w p (fun j => decide (j ∈ ns)) n)) G1 (upd (upd H1 p (SetO w p (fun j => decide (j ∈ ns)) n)) p2 (.lst (ms.map V.int))) := .hid x2.s (by rw [upd_ne hne]; exact hp2)
    exact q p2 _ G1 _ (x.trans (x2.trans x3)) (x.h.back hp2) (x.s.back hp2) upd_same (RepL.of_ints ms)
theorem it_enumT {l : List D} (h : EvD K ρ te (.tup l)) : ItD K ρ (iEnumT K (tCons te tNil)) l.length (fun i => .tup [.int (i : Int), l.getD i .non]) := fun G0 H0 G σ H S R q =>
  h G0 H0 G σ H S _ fun v G1 H1 x r => by
    obtain ⟨a, vs, rfl, ha, rr⟩ := r
    refine ⟨a, vs, rfl, SqT.of (x.s _ _ ha), q _ G1 H1 (fun H => SqT K H a vs) _ x (by rw [← rr.len]; exact walk_enumT) (fun G' H' e1 e2 => SqT.of (e2 _ _ (e1 _ _ ha))) fun i H' v H'' G' hi e1 e2 y => ?_⟩
    obtain ⟨T, u, w, rfl, hT, rfl, e3, e4⟩ := y
    cases e3
    refine ⟨upd G' T (.tup [.int (i : Nat), w]), .alloc e2 hT, ?_⟩
    obtain ⟨d, h1, h2⟩ := rr.get' e4
    have h3 : l.getD i .non = d := by simp [List.getD, h1]
    dsimp only; rw [h3]
    exact ⟨T, _, rfl, upd_same, .int (i : Nat), [w], rfl, rfl, w, [], rfl, Rep.mono (e1.trans (Ex.new (e2.back hT))) _ _ h2, rfl⟩

/-- o(..), o an instance of C -/
theorem ev_callO {C : Addr} {ns : List Str} {l : List D} {R : List D → Out → Prop} {W : XK} {to : TE} (ho : EvD K ρ to (.ins C ns l)) (ha : EvA K ρ t ds) (hR : R (.ins C ns l :: ds) (.ret (.im d))) :
    EvD K ρ (tOC C (spD K R) W to t) d := fun G0 H0 G σ H S Q q =>
  ho G0 H0 G σ H S _ fun v G1 H1 x r => by
    have r' := r
    obtain ⟨a, dx, vs, rfl, h1, h2, h3⟩ := r'
    exact ⟨a, rfl, ha G0 H0 G1 σ H1 (S.ext x) _ fun ws G2 H2 x2 r2 => ⟨.inr ⟨dx, _, x2.h _ _ (x.s _ _ h1)⟩, G2, .ins C ns l :: ds, _, x2.s, ⟨_, _, rfl, Rep.mono x2.g _ _ r, r2⟩, hR, fun v G3 H3 x3 so => by
      obtain ⟨u, e, ru⟩ := so
      cases e
      exact q v G3 H3 ((x.trans x2).trans x3) ru⟩⟩
end
section
variable {X : Cx} {CX : CXT} {k : Nat} {C : Addr} {m : Str} {ps : List Str} {dvs : List V} {sp : Sp} {E : XK} {e o : Expr} {es : List Expr} {ta : TE} {t : TA} {p apos pos : Pos}
theorem pe_mcall {pl : Sem Bool} (he : PE X o ta) (c : Cls X.K C) (M : MFn X.prog X.w X.K X.mg X.base CX k C m ps dvs sp) (hr : Room k X.A) (hx : Passes CX X E) (ha : PA X (e :: es) t)
    (hst : starEach (e :: es) X.env = (false, eval e X.env) :: starEach es X.env := by rfl) (hpl : (backTo pos (starEach es X.env)).any (·.1) = false := by rfl)
    (ht : eval (.Call (.Attribute o m apos) (e :: es) [] pos) X.env = (do
      let ov ← eval o X.env
      standAt apos.atName
      let (f, first) ← holding [ov] (getMethod ov m pl)
      callWith pos f first (backTo pos (starEach (e :: es) X.env)) (backToKw pos (keywordEach [] X.env))) := by rfl) :
    PE X (.Call (.Attribute o m apos) (e :: es) [] pos) (tMeth C m sp dvs E ta t) := by
  obtain ⟨f, fd, ds, F, hm, hb, hd⟩ := M.ex
  exact pe_meth he c hm F hr hb hd hx ha hst hpl ht
theorem pe_mcall0 {pl : Sem Bool} (he : PE X o ta) (c : Cls X.K C) (M : MFn X.prog X.w X.K X.mg X.base CX k C m ps dvs sp) (hr : Room k X.A) (hx : Passes CX X E)
    (ht : eval (.Call (.Attribute o m apos) [] [] pos) X.env = (do
      let ov ← eval o X.env
      standAt apos.atName
      let (f, first) ← holding [ov] (getMethod ov m pl)
      callWith pos f first (backTo pos (starEach [] X.env)) (backToKw pos (keywordEach [] X.env))) := by rfl) :
    PE X (.Call (.Attribute o m apos) [] [] pos) (tMeth C m sp dvs E ta tNil) := by
  obtain ⟨f, fd, ds, F, hm, hb, hd⟩ := M.ex
  exact pe_meth0 he c hm F hr hb hd hx ht
/-- what a class's __call__ promises -/
structure OFn (P : Program) (w : World) (K : PySem.W.Frag) (mg : Str → Option Value) (base : Heap) (CX : CXT) (k : Nat) (C : Addr) (sp : Sp) : Prop where
  ex : ∃ g, StX.CallO K C g ∧ FnR P w K mg base CX k g sp
theorem pe_ocall {fe : Expr} {tf : TE} (hf : PE X fe tf) (M : OFn X.prog X.w X.K X.mg X.base CX k C sp) (hr : Room k X.A) (hx : Passes CX X E) (ha : PA X (e :: es) t)
    (ht : eval (.Call fe (e :: es) [] pos) X.env = (do callWith pos (← eval fe X.env) [] (backTo pos (starEach (e :: es) X.env)) (backToKw pos (keywordEach [] X.env))) := by rfl)
    (he : starEach (e :: es) X.env = (false, eval e X.env) :: starEach es X.env := by rfl) (hpl : (backTo pos (starEach es X.env)).any (·.1) = false := by rfl) : PE X (.Call fe (e :: es) [] pos) (tOC C sp E tf t) := by
  obtain ⟨g, c, F⟩ := M.ex
  exact StX.pe_callO hf c F hr hx ha ht he hpl
/-- what a class's constructor promises -/
structure KFn (P : Program) (w : World) (K : PySem.W.Frag) (mg : Str → Option Value) (base : Heap) (CX : CXT) (k : Nat) (x : Str) (C : Addr) (ps : List Str) (dvs : List V) (sp : Sp) : Prop where
  ex : ∃ f fd ds, FnOk P w K mg base CX k f fd ps sp ∧ Mk K C f ∧ mg x = some (.ref C) ∧ Binds K fd ps ds ∧ Vals dvs ds
theorem pe_kcall {x : Str} (M : KFn X.prog X.w X.K X.mg X.base CX k x C ps dvs sp) (hr : Room (k + 1) X.A) (hx : Passes CX X E) (ha : PA X (e :: es) t) (hg : Gl X x := by rfl) (hdb : (x == ("__debug__" : Str)) = false := by decide)
    (he : starEach (e :: es) X.env = (false, eval e X.env) :: starEach es X.env := by rfl) (hpl : (backTo pos (starEach es X.env)).any (·.1) = false := by rfl) : PE X (.Call (.Name x p) (e :: es) [] pos) (tMake C sp dvs E t) := by
  obtain ⟨f, fd, ds, F, hm, hc, hb, hd⟩ := M.ex
  exact pe_make hm F hr hg hc hb hd hx ha hdb he hpl
theorem pe_kcallS {x : Str} {E : L2.St → XK} (M : KFn X.prog X.w X.K X.mg X.base CX k x C ps dvs sp) (hr : Room (k + 1) X.A) (hx : ∀ σ, PassesAt CX X σ (E σ)) (ha : PA X (e :: es) t) (hg : Gl X x := by rfl) (hdb : (x == ("__debug__" : Str)) = false := by decide)
    (he : starEach (e :: es) X.env = (false, eval e X.env) :: starEach es X.env := by rfl) (hpl : (backTo pos (starEach es X.env)).any (·.1) = false := by rfl) : PE X (.Call (.Name x p) (e :: es) [] pos) (tMakeS C sp dvs E t) := by
  obtain ⟨f, fd, ds, F, hm, hc, hb, hd⟩ := M.ex
  exact pe_makeS hm F hr hg hc hb hd hx ha hdb he hpl
end
section
variable {P : Program} {w : World} {K : PySem.W.Frag} {mg : Str → Option Value} {base : Heap}
theorem fn_okD {x qual : Str} {params : Arguments} {body : List Stmt} {scope : Scope} {dv : List V} {kws : List (Str × V)} {f : Addr} {fd : FuncData} {Nm ps : List Str} {k : Nat} {R : List D → Out → Prop} (F : FunD K x qual params body scope dv kws f fd) (S : FnScope Nm ps scope) (hl : ∀ ds o, R ds o → ds.length = ps.length)
    (hbody : ∀ (cdv : Value) (A : Around) (outer : List Env) (s : Shared) (H : Hp) (E : XK), Room k (A.deeper (envOfC qual scope s.heap.objs.size f cdv)) →
      ∃ t, PSs (cxOf CX0 P w K mg base Nm qual scope f cdv A outer s H E).nox body t ∧ ∀ ds o, R ds o → SvD K E (wr0 Nm.length ds) t (De.of o)) : FnOk P w K mg base CX0 (k + 1) f fd ps (spD K R) := by
  refine F.ok S (fun vs H Q E h => ?_) (fun cdv A outer s H vs Q E hr h => ?_)
  · obtain ⟨G, ds, o, e, r, ro, q⟩ := h
    rw [r.len]; exact hl ds o ro
  · obtain ⟨t, h1, h2⟩ := hbody cdv A outer s H E hr
    exact ⟨t, h1.nox, body_ok h h2⟩
end
theorem kk_NoneType_bool {K : PySem.W.Frag} : PySem.W.kitOne K (.type "NoneType") (.type "bool") = some false := kit_ty (by decide +kernel)
theorem kk_NoneType_int {K : PySem.W.Frag} : PySem.W.kitOne K (.type "NoneType") (.type "int") = some false := kit_ty (by decide +kernel)
theorem kk_NoneType_str {K : PySem.W.Frag} : PySem.W.kitOne K (.type "NoneType") (.type "str") = some false := kit_ty (by decide +kernel)
theorem kk_NoneType_list {K : PySem.W.Frag} : PySem.W.kitOne K (.type "NoneType") (.type "list") = some false := kit_ty (by decide +kernel)
theorem kk_NoneType_tuple {K : PySem.W.Frag} : PySem.W.kitOne K (.type "NoneType") (.type "tuple") = some false := kit_ty (by decide +kernel)
theorem kk_bool_bool {K : PySem.W.Frag} : PySem.W.kitOne K (.type "bool") (.type "bool") = some true := kit_ty (by decide +kernel)
theorem kk_bool_int {K : PySem.W.Frag} : PySem.W.kitOne K (.type "bool") (.type "int") = some true := kit_ty (by decide +kernel)
theorem kk_bool_str {K : PySem.W.Frag} : PySem.W.kitOne K (.type "bool") (.type "str") = some false := kit_ty (by decide +kernel)
theorem kk_bool_list {K : PySem.W.Frag} : PySem.W.kitOne K (.type "bool") (.type "list") = some false := kit_ty (by decide +kernel)
theorem kk_bool_tuple {K : PySem.W.Frag} : PySem.W.kitOne K (.type "bool") (.type "tuple") = some false := kit_ty (by decide +kernel)
theorem kk_int_bool {K : PySem.W.Frag} : PySem.W.kitOne K (.type "int") (.type "bool") = some false := kit_ty (by decide +kernel)
theorem kk_int_int {K : PySem.W.Frag} : PySem.W.kitOne K (.type "int") (.type "int") = some true := kit_ty (by decide +kernel)
theorem kk_int_str {K : PySem.W.Frag} : PySem.W.kitOne K (.type "int") (.type "str") = some false := kit_ty (by decide +kernel)
theorem kk_int_list {K : PySem.W.Frag} : PySem.W.kitOne K (.type "int") (.type "list") = some false := kit_ty (by decide +kernel)
theorem kk_int_tuple {K : PySem.W.Frag} : PySem.W.kitOne K (.type "int") (.type "tuple") = some false := kit_ty (by decide +kernel)
theorem kk_str_bool {K : PySem.W.Frag} : PySem.W.kitOne K (.type "str") (.type "bool") = some false := kit_ty (by decide +kernel)
theorem kk_str_int {K : PySem.W.Frag} : PySem.W.kitOne K (.type "str") (.type "int") = some false := kit_ty (by decide +kernel)
theorem kk_str_str {K : PySem.W.Frag} : PySem.W.kitOne K (.type "str") (.type "str") = some true := kit_ty (by decide +kernel)
theorem kk_str_list {K : PySem.W.Frag} : PySem.W.kitOne K (.type "str") (.type "list") = some false := kit_ty (by decide +kernel)
theorem kk_str_tuple {K : PySem.W.Frag} : PySem.W.kitOne K (.type "str") (.type "tuple") = some false := kit_ty (by decide +kernel)
theorem kk_list_bool {K : PySem.W.Frag} : PySem.W.kitOne K (.type "list") (.type "bool") = some false := kit_ty (by decide +kernel)
theorem kk_list_int {K : PySem.W.Frag} : PySem.W.kitOne K (.type "list") (.type "int") = some false := kit_ty (by decide +kernel)
theorem kk_list_str {K : PySem.W.Frag} : PySem.W.kitOne K (.type "list") (.type "str") = some false := kit_ty (by decide +kernel)
theorem kk_list_list {K : PySem.W.Frag} : PySem.W.kitOne K (.type "list") (.type "list") = some true := kit_ty (by decide +kernel)
theorem kk_list_tuple {K : PySem.W.Frag} : PySem.W.kitOne K (.type "list") (.type "tuple") = some false := kit_ty (by decide +kernel)
theorem kk_tuple_bool {K : PySem.W.Frag} : PySem.W.kitOne K (.type "tuple") (.type "bool") = some false := kit_ty (by decide +kernel)
theorem kk_tuple_int {K : PySem.W.Frag} : PySem.W.kitOne K (.type "tuple") (.type "int") = some false := kit_ty (by decide +kernel)
theorem kk_tuple_str {K : PySem.W.Frag} : PySem.W.kitOne K (.type "tuple") (.type "str") = some false := kit_ty (by decide +kernel)
theorem kk_tuple_list {K : PySem.W.Frag} : PySem.W.kitOne K (.type "tuple") (.type "list") = some false := kit_ty (by decide +kernel)
theorem kk_tuple_tuple {K : PySem.W.Frag} : PySem.W.kitOne K (.type "tuple") (.type "tuple") = some true := kit_ty (by decide +kernel)
end PL

set_option Elab.async false
set_option linter.all false
set_option maxRecDepth 100000
set_option maxHeartbeats 1000000
/-! DLQ: defs that promise only what their value is like. -/
namespace PL
open PySem PySem.Spec PyProof.Rows L2
def spQ (K : PySem.W.Frag) (R : List D → (Sl → Prop) → Prop) : Sp := fun vs H Q E => ∃ (G : Hp) (ds : List D) (P : Sl → Prop), Ex G H ∧ RepL K G ds vs ∧ R ds P ∧ ∀ s v G' H', P s → Ext G H G' H' → SlotOk K H G' H' s (some v) → Q v H'
def De.ofQ (P : Sl → Prop) : De := { nx := fun _ => P (.im .non), rt := P }
/-- the frozen value of a slot -/
def Sl.d : Sl → D
  | .im d => d | .ow d => d | .dp _ o => o.d | .no => .non | .ex _ _ _ _ => .non
def Sl.val : Sl → Prop
  | .im _ => True | .ow _ => True | .dp _ _ => True | _ => False
section
variable {K : PySem.W.Frag} {E : XK} {G H G' H' G0 H0 : Hp} {ρ : List Sl} {σ : L2.St} {te : TE} {ta : TA} {d : D} {ds dds : List D} {dvs : List V} {Δ : De} {t : TS}
theorem bodyQ_ok {R : List D → (Sl → Prop) → Prop} {Nm : List Str} {vs : List V} {Q : VK} {ts : TS} (h : spQ K R vs H Q E) (hb : ∀ ds P, R ds P → SvD K E (wr0 Nm.length ds) ts (De.ofQ P)) :
    ts { nx := fun _ H' => Q .non H', rt := Q } (L2.start Nm vs) H := by
  obtain ⟨G, ds, P, e, r, ro, q⟩ := h
  have S : St K G H (wr0 Nm.length ds) G (L2.start Nm vs) H := by
    refine ⟨.refl e, [], ?_, .nil⟩
    unfold L2.start wr0
    rw [r.len]
    exact slots_start _ r
  refine hb ds P ro G H G _ H _ S ⟨fun ρ G' σ H' _ S' z => ?_, fun s' v G' H' _ x so z => ?_, fun _ _ _ _ _ _ z => z.elim, fun _ _ _ _ _ _ z => z.elim, fun _ _ _ _ _ _ _ _ _ _ _ _ _ z => z.elim⟩
  · exact q _ .non G' H' z S'.x ⟨.non, rfl, rfl⟩
  · exact q s' v G' H' z x so
theorem SlotOk.letgo {s : Sl} {v : V} (hv : s.val) (x : Ext G H G' H') (h : SlotOk K H G' H' s (some v)) : ∃ G1, Ext G H G1 H' ∧ Ex G' G1 ∧ Rep K G1 s.d v := by
  cases s with
  | no => exact hv.elim
  | ex _ _ _ _ => exact hv.elim
  | im d =>
    obtain ⟨u, e, r⟩ := h
    cases e
    exact ⟨G', x, .refl _, r⟩
  | ow d =>
    obtain ⟨p, o, e, hp, hg, hh, ho⟩ := h
    cases e
    exact ⟨upd G' p o, x.show_ hp hg hh, Ex.new hg, (ho.mono (Ex.new hg)).rep upd_same⟩
  | dp y o =>
    obtain ⟨u, A, e, _, r, nd⟩ := h
    cases e
    obtain ⟨G1, x1, e1, r1⟩ := RepO.letgo x r
    exact ⟨G1, x1, e1, r1⟩
/-! ### judgements -/
def EvDQ (K : PySem.W.Frag) (ρ : List Sl) (te : TE) (P : D → Prop) : Prop := ∀ (G0 H0 G : Hp) (σ : L2.St) (H : Hp), St K G0 H0 ρ G σ H → ∀ Q : VK, (∀ v d G' H', P d → Ext G H G' H' → Rep K G' d v → Q v H') → te σ H Q
def EvFQ (K : PySem.W.Frag) (ρ : List Sl) (te : TE) (P : D → Prop) : Prop := ∀ (G0 H0 G : Hp) (σ : L2.St) (H : Hp), St K G0 H0 ρ G σ H → ∀ Q : VK, (∀ p o d G' H', P d → Ext G H G' H' → H p = none → G' p = none → H' p = some o → OwnO K G' d o → Q (.ref p) H') → te σ H Q
def EvAQ (K : PySem.W.Frag) (ρ : List Sl) (ta : TA) (P : List D → Prop) : Prop := ∀ (G0 H0 G : Hp) (σ : L2.St) (H : Hp), St K G0 H0 ρ G σ H → ∀ Q : List V → Hp → Prop, (∀ vs ds G' H', P ds → Ext G H G' H' → RepL K G' ds vs → Q vs H') → ta σ H Q
/-- a slot's worth -/
def EvSQ (K : PySem.W.Frag) (ρ : List Sl) (te : TE) (P : Sl → Prop) : Prop := ∀ (G0 H0 G : Hp) (σ : L2.St) (H : Hp), St K G0 H0 ρ G σ H → ∀ Q : VK, (∀ s v G' H', P s → Ext G H G' H' → SlotOk K H G' H' s (some v) → Q v H') → te σ H Q
theorem EvD.q (h : EvD K ρ te d) : EvDQ K ρ te (fun x => x = d) := fun G0 H0 G σ H S Q q => h G0 H0 G σ H S Q fun v G' H' x r => q v d G' H' rfl x r
theorem EvSQ.im {P : Sl → Prop} (h : EvSQ K ρ te P) (hv : ∀ s, P s → s.val) : EvDQ K ρ te (fun d => ∃ s, P s ∧ d = s.d) := fun G0 H0 G σ H S Q q => h G0 H0 G σ H S Q fun s v G' H' p x so => by
  obtain ⟨G1, x1, _, r⟩ := so.letgo (hv s p) x
  exact q v _ G1 H' ⟨s, p, rfl⟩ x1 r
theorem EvDQ.imp {P P' : D → Prop} (h : EvDQ K ρ te P) (i : ∀ d, P d → P' d) : EvDQ K ρ te P' := fun G0 H0 G σ H S Q q => h G0 H0 G σ H S Q fun v d G' H' p x r => q v d G' H' (i d p) x r
theorem eq_call {R : List D → (Sl → Prop) → Prop} {W : XK} {P : Sl → Prop} (ha : EvA K ρ ta ds) (hR : R (ds ++ dds) P) (hd : DefD K dds dvs := by exact def0) : EvSQ K ρ (tCall (spQ K R) dvs W ta) P := fun G0 H0 G σ H S Q q =>
  ha G0 H0 G σ H S _ fun vs G1 H1 x r => ⟨G1, _, P, x.s, r.append (hd G1), hR, fun s v G2 H2 p x2 so => q s v G2 H2 p (x.trans x2) (by
    obtain ⟨A, h, nd⟩ := so.a
    refine SlotA.ok ?_ nd
    cases s with
    | no => exact h
    | im d => exact h
    | ow d => obtain ⟨p, o, e, e1, h0, hh⟩ := h; exact ⟨p, o, e, e1, x.h.back h0, hh⟩
    | dp y o => obtain ⟨v, e, ex, h⟩ := h; exact ⟨v, e, ex, RepO.old x.h _ _ _ h⟩
    | ex _ _ _ _ => exact h)⟩
theorem eaq_nil : EvAQ K ρ tNil (fun l => l = []) := fun G0 H0 G σ H S Q q => q _ _ G H rfl (.refl S.x.s) rfl
theorem eaq_cons {P : D → Prop} {P2 : List D → Prop} (h : EvDQ K ρ te P) (h2 : EvAQ K ρ ta P2) : EvAQ K ρ (tCons te ta) (fun l => ∃ d ds, l = d :: ds ∧ P d ∧ P2 ds) := fun G0 H0 G σ H S Q q =>
  h G0 H0 G σ H S _ fun v d G1 H1 p x1 r1 => h2 G0 H0 G1 σ H1 (S.ext x1) _ fun vs ds G2 H2 p2 x2 r2 => q _ _ G2 H2 ⟨d, ds, rfl, p, p2⟩ (x1.trans x2) ⟨v, vs, rfl, Rep.mono x2.g _ _ r1, r2⟩
theorem efq_lst {P : List D → Prop} (h : EvAQ K ρ ta P) (hl : ∀ ds, P ds → ds.length ≤ 16777216) : EvFQ K ρ (tLst ta) (fun d => ∃ ds, d = .lst ds ∧ P ds) := fun G0 H0 G σ H S Q q =>
  h G0 H0 G σ H S _ fun vs ds G1 H1 p x r => ⟨by rw [r.len, sizeLine_eq]; exact hl ds p, fun a ha =>
    q a _ _ G1 _ ⟨ds, rfl, p⟩ (x.trans (.hid x.s ha)) (x.h.back ha) (x.s.back ha) upd_same r⟩
theorem sv_setSQ {i : Nat} {P : Sl → Prop} (h : EvSQ K ρ te P) (q : ∀ s, P s → Δ.nx (ρ.set i s)) : SvD K E ρ (tAsg te (gName i)) Δ := fun G0 H0 G σ H N S M =>
  h G0 H0 G σ H S _ fun s v G1 H1 p x so => by
    obtain ⟨A, h, nd⟩ := so.a
    have th := h.there
    refine M.nx _ G1 _ H1 x.g (S.set_new x (s := s) (v := some v) (A := A) ?_ nd (fun q hq => (th q hq).1) i) (q s p)
    cases s with
    | no => exact h
    | im d => exact h
    | ow d => obtain ⟨p, o, e, e1, h0, hh⟩ := h; exact ⟨p, o, e, e1, S.x.h.back h0, hh⟩
    | dp y o => obtain ⟨v, e, ex, h⟩ := h; exact ⟨v, e, ex, RepO.old S.x.h _ _ _ h⟩
    | ex _ _ _ _ => exact h
theorem sv_asgDQ {g : TG} {P : D → Prop} (h : EvDQ K ρ te P) (q : ∀ d, P d → ∃ ρ', TgD K ρ g d ρ' ∧ Δ.nx ρ') : SvD K E ρ (tAsg te g) Δ := fun G0 H0 G σ H N S M =>
  h G0 H0 G σ H S _ fun v d G1 H1 p x r => by
    obtain ⟨ρ', ht, hn⟩ := q d p
    exact ht G0 H0 G1 σ H1 v (S.ext x) r _ fun σ' S' => M.nx ρ' G1 σ' H1 x.g S' hn
theorem sv_retFQ {P : D → Prop} (h : EvFQ K ρ te P) (q : ∀ d, P d → Δ.rt (.ow d)) : SvD K E ρ (tRet te) Δ := fun G0 H0 G σ H N S M =>
  h G0 H0 G σ H S _ fun p o d G1 H1 pp x hp hg hh ho => M.rt (.ow d) (.ref p) G1 H1 x.g (S.x.trans x) ⟨p, o, rfl, S.x.h.back hp, hg, hh, ho⟩ (q d pp)
end
section
variable {P : Program} {w : World} {K : PySem.W.Frag} {mg : Str → Option Value} {base : Heap}
theorem fn_okQ {x qual : Str} {st : Stmt} {f : Addr} {fd : FuncData} {Nm ps : List Str} {k : Nat} {R : List D → (Sl → Prop) → Prop} (F : Fun K x qual st f fd) (S : FnScope Nm ps (defScope st)) (hl : ∀ ds P, R ds P → ds.length = ps.length)
    (hbody : ∀ (cdv : Value) (A : Around) (outer : List Env) (s : Shared) (H : Hp) (E : XK), Room k (A.deeper (envOfC qual (defScope st) s.heap.objs.size f cdv)) →
      ∃ t, PSs (cxOf CX0 P w K mg base Nm qual (defScope st) f cdv A outer s H E).nox (defBody st) t ∧ ∀ ds P, R ds P → SvD K E (wr0 Nm.length ds) t (De.ofQ P)) : FnOk P w K mg base CX0 (k + 1) f fd ps (spQ K R) := by
  refine F.ok S (fun vs H Q E h => ?_) (fun cdv A outer s H vs Q E hr h => ?_)
  · obtain ⟨G, ds, o, e, r, ro, q⟩ := h
    rw [r.len]; exact hl ds o ro
  · obtain ⟨t, h1, h2⟩ := hbody cdv A outer s H E hr
    exact ⟨t, h1, bodyQ_ok h h2⟩
end
end PL

set_option Elab.async false
set_option linter.all false
set_option maxRecDepth 100000
set_option maxHeartbeats 1000000
/-! DL10: a law's end. -/
namespace PL
open PySem PySem.Spec PyProof.Rows L2
/-- what the law promises -/
def RL : List D → Out → Prop := fun ds o => ∃ ns, ds = [.scr ns] ∧ o = .ret (.im (.bl true))
theorem walk_law {k : Nat} {l : PySem.W.OpenLaw} {q : Program} {loose : List Str} {XP : (Str → Option Value) → Heap → Prop} {YP : World → Heap → Prop} {d : DefRec} {K : Params → PySem.W.Frag} (hn : l.most = some 63) (hdf : d.params.defaults = []) (hr : Room k callerA)
    (hY : ∀ (w : World) (h : Heap), YP w h → (K w.params).In h)
    (F : ∀ (w : World) (mg : Str → Option Value) (fa : Addr) (h : Heap), (K w.params).In h → h.Ns mainGlobals mg → mg d.name = some (.ref fa) →
      ∃ fd : FuncData, (∀ (s : Shared) (u : Value), BindsTo s fd ⟨[u], []⟩ [("script", u)]) ∧ ∀ base : Heap, (K w.params).In base → base.Ns mainGlobals mg → FnOk l.prog w (K w.params) mg base CX0 k fa fd ["script"] (spD (K w.params) RL)) :
    PySem.W.WalkO q loose XP YP l.row.toRowW d [] (fun f vs => PySem.call f vs) :=
  L2.walk_of (n := 63) (k := k) (x := "script") (CX := fun _ => CX0) (sp := fun w => spD (K w.params) RL) hn (by decide) hdf hr hY F
    (fun w H a ns hl _ hS => ⟨H, [.scr ns], .ret (.im (.bl true)), .refl _, ⟨.ref a, [], rfl, ⟨a, rfl, hS⟩, rfl⟩, ⟨ns, rfl, rfl⟩, fun v G' H' _ so => by
      obtain ⟨u, e, r⟩ := so
      cases e
      exact r⟩) fun _ _ _ _ _ z => z

theorem kit_T {K : PySem.W.Frag} {C : Addr} {T : String} {b : Bool} (hs : PySem.W.subIn K (.ref C) (.type T) = some b) (hm : PySem.W.kitMeta T = true) : PySem.W.kitOne K (.ref C) (.type T) = some b := by
  unfold PySem.W.kitOne PySem.W.kitCls
  rw [if_neg (by simp)]
  show (if PySem.W.kitMeta T = true then PySem.W.subIn K (.ref C) (.type T) else none) = some b
  rw [if_pos hm]; exact hs
theorem kit_self {K : PySem.W.Frag} {C : Addr} : PySem.W.kitOne K (.ref C) (.ref C) = some true := by
  unfold PySem.W.kitOne; rw [if_pos (by simp)]
theorem kit_R {K : PySem.W.Frag} {C D : Addr} {b : Bool} (hn : (C == D) = false) (hd : PySem.W.hasDictIn K D = true) (ht : PySem.W.typeIn K (.ref D) = some (.type "type")) (hs : PySem.W.subIn K (.ref C) (.ref D) = some b) : PySem.W.kitOne K (.ref C) (.ref D) = some b := by
  obtain ⟨cd, hc, _⟩ := PySem.W.any_some hd
  have hne : (Value.ref C == Value.ref D) = false := by
    rw [beq_eq_false_iff_ne] at hn ⊢
    intro e; exact hn (Value.ref.inj e)
  unfold PySem.W.kitOne PySem.W.kitCls
  rw [if_neg (by rw [hne]; simp)]
  show (if ((PySem.W.clsIn K D).isSome && PySem.W.typeIn K (.ref D) == some (.type "type")) = true then PySem.W.subIn K (.ref C) (.ref D) else none) = some b
  rw [if_pos (by rw [hc, ht]; rfl)]
  exact hs
theorem raw0 {P : Program} {w : World} {K : PySem.W.Frag} {mg : Str → Option Value} {base : Heap} {CX : CXT} {k : Nat} {f : Addr} {sp : Sp} {fd : FuncData} {ps : List Str} (F : FnOk P w K mg base CX k f fd ps sp) (hb : Binds K fd ps []) : FnR P w K mg base CX k f sp :=
  (F.raw hb .nil).imp fun vs H Q E h => by rw [List.append_nil]; exact h
end PL

set_option Elab.async false
set_option linter.all false
set_option maxRecDepth 100000
set_option maxHeartbeats 1000000
/-! LC: what the laws' texts share. -/
namespace PL
open PySem PySem.Spec PyProof.Rows L2
theorem len_one (c : Nat) : (⟨#[c]⟩ : Str).length = 1 := rfl
local macro_rules | `(tactic| walk_at "pl_len") => `(tactic| first
  | decide
  | (with_reducible assumption)
  | (simp; done)
  | omega)
local macro_rules | `(tactic| walk_at "pl_kk") => `(tactic| first
  | (with_reducible exact kk_NoneType_bool)
  | (with_reducible exact kk_NoneType_int)
  | (with_reducible exact kk_NoneType_str)
  | (with_reducible exact kk_NoneType_list)
  | (with_reducible exact kk_NoneType_tuple)
  | (with_reducible exact kk_bool_bool)
  | (with_reducible exact kk_bool_int)
  | (with_reducible exact kk_bool_str)
  | (with_reducible exact kk_bool_list)
  | (with_reducible exact kk_bool_tuple)
  | (with_reducible exact kk_int_bool)
  | (with_reducible exact kk_int_int)
  | (with_reducible exact kk_int_str)
  | (with_reducible exact kk_int_list)
  | (with_reducible exact kk_int_tuple)
  | (with_reducible exact kk_str_bool)
  | (with_reducible exact kk_str_int)
  | (with_reducible exact kk_str_str)
  | (with_reducible exact kk_str_list)
  | (with_reducible exact kk_str_tuple)
  | (with_reducible exact kk_list_bool)
  | (with_reducible exact kk_list_int)
  | (with_reducible exact kk_list_str)
  | (with_reducible exact kk_list_list)
  | (with_reducible exact kk_list_tuple)
  | (with_reducible exact kk_tuple_bool)
  | (with_reducible exact kk_tuple_int)
  | (with_reducible exact kk_tuple_str)
  | (with_reducible exact kk_tuple_list)
  | (with_reducible exact kk_tuple_tuple))
local macro_rules | `(tactic| walk_at "pl_at") => `(tactic| first
  | (with_reducible assumption)
  | assumption
  | rfl)
local macro_rules | `(tactic| walk_at "pl_side") => `(tactic| first
  | (with_reducible assumption)
  | omega
  | decide
  | (simp only [len_one]; omega))
local macro_rules | `(tactic| walk_at "pl_op") => `(tactic| first
  | (with_reducible exact oa_int)
  | (with_reducible exact om_sub)
  | (with_reducible exact om_lt)
  | (with_reducible exact om_le)
  | (with_reducible exact om_gt)
  | (with_reducible exact om_ge)
  | (with_reducible exact oe_int)
  | (with_reducible exact on_int)
  | (with_reducible exact oe_str)
  | (with_reducible exact on_str)
  | (with_reducible exact oe_bl)
  | (with_reducible exact on_bl)
  | (with_reducible exact oi_lint)
  | (with_reducible exact oi_tint)
  | (with_reducible exact oi_tstr)
  | (with_reducible exact oi_sign)
  | (with_reducible exact oni_sign)
  | (with_reducible exact oni_lint)
  | (with_reducible exact ois_non)
  | (with_reducible exact oisn_non)
  | ((with_reducible refine' om_mod ?h0); (case h0 => walk_at "pl_side"))
  | ((with_reducible refine' om_fdv ?h0 ?h1); (case h0 => walk_at "pl_side"); (case h1 => walk_at "pl_side"))
  | ((with_reducible refine' om_mulL ?h0 ?h1); (case h0 => walk_at "pl_side"); (case h1 => walk_at "pl_side"))
  | ((with_reducible refine' om_mulR ?h0 ?h1); (case h0 => walk_at "pl_side"); (case h1 => walk_at "pl_side"))
  | ((with_reducible refine' om_pow ?h0 ?h1 ?h2); (case h0 => walk_at "pl_side"); (case h1 => walk_at "pl_side"); (case h2 => walk_at "pl_side"))
  | ((with_reducible refine' ox_int ?h0 ?h1); (case h0 => walk_at "pl_side"); (case h1 => walk_at "pl_side"))
  | ((with_reducible refine' ox_scr ?h0 ?h1); (case h0 => walk_at "pl_side"); (case h1 => walk_at "pl_side"))
  | ((with_reducible refine' ox_lst ?h0); (case h0 => walk_at "pl_at"))
  | ((with_reducible refine' ox_tup ?h0); (case h0 => walk_at "pl_at"))
  | ((with_reducible refine' ox_str ?h0 ?h1); (case h0 => walk_at "pl_side"); (case h1 => walk_at "pl_at"))
  | ((with_reducible refine' oa_str ?h0); (case h0 => walk_at "pl_side"))
  | ((with_reducible refine' om_str ?h0); (case h0 => walk_at "pl_side")))
local macro_rules | `(tactic| walk_at "pl_cb") => `(tactic| first
  | (with_reducible exact c_int)
  | (with_reducible exact c_len_lst)
  | (with_reducible exact c_len_scr)
  | (with_reducible exact c_len_tup)
  | ((with_reducible refine' c_len_str ?h0); (case h0 => walk_at "pl_side"))
  | (with_reducible exact c_intB)
  | (with_reducible exact c_min)
  | (with_reducible exact c_max)
  | (with_reducible exact c_tuple))
local macro_rules | `(tactic| walk_at "pl_cf") => `(tactic| first
  | (with_reducible exact c_list)
  | (with_reducible exact c_listT))
local macro_rules | `(tactic| walk_at "pl_eab") => `(tactic| first
  | (with_reducible exact eb_nil)
  | ((with_reducible refine' eb_cons ?h0 ?h1); (case h0 => walk_at "pl_evb"); (case h1 => walk_at "pl_eab")))
local macro_rules | `(tactic| walk_at "pl_ea") => `(tactic| first
  | (with_reducible exact ea_nil)
  | ((with_reducible refine' ea_cons ?h0 ?h1); (case h0 => walk_at "pl_ev"); (case h1 => walk_at "pl_ea")))
local macro_rules | `(tactic| walk_at "pl_evb") => `(tactic| first
  | ((with_reducible refine' evb_var ?h0); (case h0 => rfl))
  | ((with_reducible refine' EvD.b ?h0); (case h0 => walk_at "pl_ev")))
local macro_rules | `(tactic| walk_at "pl_eo") => `(tactic| first
  | (with_reducible exact eo_none)
  | ((with_reducible refine' eo_some ?h0); (case h0 => walk_at "pl_ev")))
local macro_rules | `(tactic| walk_at "pl_opf") => `(tactic| first
  | ((with_reducible refine' oa_lst ?h0); (case h0 => walk_at "pl_len"))
  | ((with_reducible refine' om_rep ?h0 ?h1 ?h2); (case h0 => walk_at "pl_side"); (case h1 => walk_at "pl_side"); (case h2 => walk_at "pl_side")))
local macro_rules | `(tactic| walk_at "pl_evf") => `(tactic| first
  | (with_reducible exact ef_dnewT)
  | (with_reducible exact ef_dnewK)
  | ((with_reducible refine' ef_lst ?h0 ?h1); (case h0 => walk_at "pl_ea"); (case h1 => walk_at "pl_len"))
  | ((with_reducible refine' ef_slice ?h0 ?h1 ?h2); (case h0 => walk_at "pl_evb"); (case h1 => walk_at "pl_eo"); (case h2 => walk_at "pl_eo"))
  | ((with_reducible refine' ef_rev ?h0); (case h0 => walk_at "pl_evb"))
  | ((with_reducible refine' ef_cb ?h0 ?h1); (case h0 => walk_at "pl_eab"); (case h1 => walk_at "pl_cf"))
  | ((with_reducible refine' ev_opF ?h0 ?h1 ?h2); (case h0 => walk_at "pl_evb"); (case h1 => walk_at "pl_evb"); (case h2 => walk_at "pl_opf")))
local macro_rules | `(tactic| walk_at "pl_ev") => `(tactic| first
  | ((with_reducible refine' ev_var ?h0); (case h0 => rfl))
  | (with_reducible exact ev_int)
  | (with_reducible exact ev_str)
  | (with_reducible exact ev_bl)
  | (with_reducible exact ev_non)
  | ((with_reducible refine' ev_op ?h0 ?h1 ?h2); (case h0 => walk_at "pl_evb"); (case h1 => walk_at "pl_evb"); (case h2 => walk_at "pl_op"))
  | ((with_reducible refine' ev_cb ?h0 ?h1); (case h0 => walk_at "pl_eab"); (case h1 => walk_at "pl_cb"))
  | ((with_reducible refine' ev_isi ?h0 ?h1 ?h2); (case h0 => walk_at "pl_evb"); (case h1 => rfl); (case h2 => walk_at "pl_kk"))
  | ((with_reducible refine' ev_tup ?h0 ?h1); (case h0 => walk_at "pl_ea"); (case h1 => walk_at "pl_len"))
  | ((with_reducible refine' ev_neg ?h0); (case h0 => walk_at "pl_ev"))
  | ((with_reducible refine' ev_not ?h0); (case h0 => walk_at "pl_ev"))
  | ((with_reducible refine' ev_chain ?h0 ?h1 (fun _ => ?h2) ?h3 (fun _ => ?h4)); (case h0 => walk_at "pl_ev"); (case h1 => walk_at "pl_ev"); (case h3 => walk_at "pl_op"); (case h2 => walk_at "pl_ev"); (case h4 => walk_at "pl_op"))
  | ((with_reducible refine' ev_dinIS ?h0 ?h1); (case h0 => walk_at "pl_ev"); (case h1 => walk_at "pl_evb"))
  | ((with_reducible refine' ev_get2IS ?h0 ?h1 ?h2); (case h0 => walk_at "pl_evb"); (case h1 => walk_at "pl_ev"); (case h2 => walk_at "pl_ev"))
  | ((with_reducible refine' ev_and ?h0 ?h1); (case h0 => walk_at "pl_ev"); (case h1 => (intro hz; (try simp only [decide_eq_true_eq, decide_eq_false_iff_not] at hz); walk_at "pl_ev")))
  | ((with_reducible refine' ev_or ?h0 ?h1); (case h0 => walk_at "pl_ev"); (case h1 => (intro hz; (try simp only [decide_eq_true_eq, decide_eq_false_iff_not] at hz); walk_at "pl_ev")))
  | ((with_reducible refine' ev_sliceS ?h0 ?h1 ?h2 ?h3); (case h3 => walk_at "pl_side"); (case h0 => walk_at "pl_ev"); (case h1 => walk_at "pl_eo"); (case h2 => walk_at "pl_eo"))
  | ((with_reducible refine' EvF.im ?h0); (case h0 => walk_at "pl_evf")))
local macro_rules | `(tactic| walk_at "pl_et") => `(tactic| first
  | ((with_reducible refine' et_test ?h0); (case h0 => walk_at "pl_ev"))
  | ((with_reducible refine' et_B ?h0); (case h0 => walk_at "pl_ev"))
  | ((with_reducible refine' et_not ?h0); (case h0 => walk_at "pl_et"))
  | ((with_reducible refine' et_and ?h0 ?h1); (case h0 => walk_at "pl_et"); (case h1 => (intro hz; (try simp only [decide_eq_true_eq, decide_eq_false_iff_not] at hz); walk_at "pl_et")))
  | ((with_reducible refine' et_or ?h0 ?h1); (case h0 => walk_at "pl_et"); (case h1 => (intro hz; (try simp only [decide_eq_true_eq, decide_eq_false_iff_not] at hz); walk_at "pl_et")))
  | ((with_reducible refine' et_tru ?h0 ?h1); (case h0 => walk_at "pl_evb"); (case h1 => rfl)))
local macro_rules | `(tactic| walk_at "pl_nx") => `(tactic| simp only [List.set_cons_zero, List.set_cons_succ, Int.reduceToNat])
local macro_rules | `(tactic| walk_at "pl_sv") => `(tactic| first
  | ((with_reducible refine' sv_seq ?_))
  | ((with_reducible refine' sv_setF ?h0 ?_); (case h0 => walk_at "pl_evf"); walk_at "pl_nx")
  | ((with_reducible refine' sv_set ?h0 ?_); (case h0 => walk_at "pl_ev"); walk_at "pl_nx")
  | ((with_reducible refine' sv_app ?h0 ?h1 ?h2 ?_); (case h0 => rfl); (case h1 => walk_at "pl_ev"); (case h2 => walk_at "pl_side"); walk_at "pl_nx")
  | ((with_reducible refine' sv_dputIS ?h0 ?h1 ?h2 ?h3 ?_); (case h0 => rfl); (case h1 => walk_at "pl_ev"); (case h2 => walk_at "pl_ev"); (case h3 => walk_at "pl_side"); walk_at "pl_nx")
  | ((with_reducible refine' sv_next ?_))
  | ((with_reducible refine' sv_ret_own ?h0 ?_); (case h0 => rfl))
  | ((with_reducible refine' sv_retF ?h0 ?_); (case h0 => walk_at "pl_evf"))
  | ((with_reducible refine' sv_ret ?h0 ?_); (case h0 => walk_at "pl_ev"))
  | ((with_reducible refine' sv_cont ?_))
  | ((with_reducible refine' sv_brk ?_)))
local macro_rules | `(tactic| walk_at "pl_if") => `(tactic| ((with_reducible refine' sv_if ?h0 ?_ ?_); (case h0 => walk_at "pl_et")))
local macro_rules | `(tactic| walk_at "pl_go") => `(tactic| (repeat (walk_at "pl_sv")))

def tc__law_row (K : PySem.W.Frag) : TS :=
  tSeq (tAsg (tC (.int 0)) (gName 2))
    (tSeq (tIfS (tAnd (tTest (tOp qGtI (tCB (qLen K) (tCons (tVar 0) (tNil))) (tC (.int 0)))) (tTest (tOp qGeI (tOp (rIx K) (tVar 0) (tC (.int 0))) (tOp (qPowI) (tC (.int 10)) (tC (.int 18)))))) (tAsg (tOp (rIx K) (tVar 0) (tC (.int 0))) (gName 2)) (tNext))
    (tSeq (tAsg (tLst (tNil)) (gName 3))
    (tSeq (tAsg (tC (.int 12345)) (gName 4))
    (tSeq (tFor (iRng1 (tCons (tVar 1) (tNil))) (gName 5) (tSeq (tAsg (tVar 5) (gName 6))
      (tSeq (tIfS (tTest (tOp qGtI (tCB (qLen K) (tCons (tVar 0) (tNil))) (tC (.int 0)))) (tAsg (tOp (rIx K) (tVar 0) (tOp (qModI) (tCB (qInt) (tCons (tVar 5) (tNil))) (tCB (qMin2) (tCons (tCB (qLen K) (tCons (tVar 0) (tNil))) (tCons (tC (.int 63)) (tNil)))))) (gName 6)) (tNext))
      (tSeq (tAsg (tOp (qModI) (tCB (qInt) (tCons (tOp (rAddU K) (tOp (rAddU K) (tOp (rMulU) (tVar 4) (tC (.int 48271))) (tOp (rMulU) (tOp (qModI) (tCB (qInt) (tCons (tVar 6) (tNil))) (tC (.int 1000003))) (tC (.int 69621)))) (tOp (rMulU) (tVar 5) (tC (.int 7907)))) (tNil))) (tC (.int 2147483647))) (gName 4))
      (tIfS (tTest (tOp qGtI (tVar 2) (tC (.int 0)))) (tSeq (tDrop (tBM K "list" rAppend (tVar 3) (tCons (tOp (qModI) (tCB (qInt) (tCons (tVar 2) (tNil))) (tC (.int 997))) (tNil))))
        (tAsg (tOp (qFdvI) (tVar 2) (tC (.int 997))) (gName 2))) (tDrop (tBM K "list" rAppend (tVar 3) (tCons (tOp (qModI) (tCB (qInt) (tCons (tOp (qFdvI) (tVar 4) (tC (.int 11))) (tNil))) (tC (.int 997))) (tNil)))))))))
    (tRet (tVar 3))))))
def tc__law_same (K : PySem.W.Frag) : TS :=
  tSeq (tAsg (tLst (tCons (tTup (tCons (tVar 0) (tCons (tVar 1) (tNil)))) (tNil))) (gName 2))
    (tSeq (tFor (iRng1 (tCons (tC (.int 200000)) (tNil))) (gName 3) (tSeq (tIfS (tTest (tOp (rEqU K) (tVar 2) (tLst (tNil)))) (tRet (tC (.bl true))) (tNext))
      (tSeq (tAsg (tBM0 K "list" rPop (tVar 2)) (gTup K 2 (gCons (gName 4) (gCons (gName 5) (gNil)))))
      (tIfS (tTest (tOp L2.rIsN (tVar 5) (tC .non))) (tIfS (tTest (tOp L2.rNotN (tVar 4) (tC .non))) (tRet (tC (.bl false))) (tNext)) (tIfS (tB (tCB (rIsi K) (tCons (tVar 5) (tCons (tC (.ty "bool")) (tNil))))) (tIfS (tOr (tNot (tB (tCB (rIsi K) (tCons (tVar 4) (tCons (tC (.ty "bool")) (tNil)))))) (tTest (tOp (rNeU K) (tVar 4) (tVar 5)))) (tRet (tC (.bl false))) (tNext)) (tIfS (tB (tCB (rIsi K) (tCons (tVar 5) (tCons (tC (.ty "int")) (tNil))))) (tIfS (tOr (tNot (tB (tCB (rIsi K) (tCons (tVar 4) (tCons (tC (.ty "int")) (tNil)))))) (tOr (tB (tCB (rIsi K) (tCons (tVar 4) (tCons (tC (.ty "bool")) (tNil))))) (tTest (tOp (rNeU K) (tVar 4) (tVar 5))))) (tRet (tC (.bl false))) (tNext)) (tIfS (tB (tCB (rIsi K) (tCons (tVar 5) (tCons (tC (.ty "str")) (tNil))))) (tIfS (tOr (tNot (tB (tCB (rIsi K) (tCons (tVar 4) (tCons (tC (.ty "str")) (tNil)))))) (tTest (tOp (rNeU K) (tVar 4) (tVar 5)))) (tRet (tC (.bl false))) (tNext)) (tSeq (tIfS (tOr (tTest (tOp (rNeU K) (tCB (rIsi K) (tCons (tVar 4) (tCons (tC (.ty "list")) (tNil)))) (tCB (rIsi K) (tCons (tVar 5) (tCons (tC (.ty "list")) (tNil)))))) (tTest (tOp (rNeU K) (tCB (rIsi K) (tCons (tVar 4) (tCons (tC (.ty "tuple")) (tNil)))) (tCB (rIsi K) (tCons (tVar 5) (tCons (tC (.ty "tuple")) (tNil))))))) (tRet (tC (.bl false))) (tNext))
              (tSeq (tIfS (tTest (tOp (rNeU K) (tCB (qLen K) (tCons (tVar 4) (tNil))) (tCB (qLen K) (tCons (tVar 5) (tNil))))) (tRet (tC (.bl false))) (tNext))
              (tFor (iRng1 (tCons (tCB (qLen K) (tCons (tVar 5) (tNil))) (tNil))) (gName 6) (tDrop (tBM K "list" rAppend (tVar 2) (tCons (tTup (tCons (tOp (rIx K) (tVar 4) (tVar 6)) (tCons (tOp (rIx K) (tVar 5) (tVar 6)) (tNil)))) (tNil))))))))))))))
    (tRet (tC (.bl false))))
section
variable {K : PySem.W.Frag} {E : XK} {ρ : List Sl} {Δ : De} {t : TS}
theorem sv_mid (I : List Sl → Prop) (h : SvD K E ρ t { Δ with nx := I }) (h2 : ∀ ρ', I ρ' → Δ.nx ρ') : SvD K E ρ t Δ := h.imp h2 (fun _ h => h) (fun _ h => h) (fun _ h => h) (fun _ _ _ h => h)
end
theorem and_false_not {p q : Prop} [Decidable p] [Decidable q] (h : (decide p && decide q) = false) : ¬ (p ∧ q) := fun ⟨a, b⟩ => by simp [a, b] at h
structure RS where
  rest : Int
  mixed : Int
  row : List Int
def cellOf (ns : List Int) (k : Nat) : Int := if 0 < (ns.length : Int) then ns.getD ((k : Int) % min (ns.length : Int) 63).toNat 0 else k
def rStep (ns : List Int) (k : Nat) (s : RS) : RS :=
  let m := (s.mixed * 48271 + cellOf ns k % 1000003 * 69621 + k * 7907) % 2147483647
  if 0 < s.rest then ⟨s.rest / 997, m, s.row ++ [s.rest % 997]⟩ else ⟨s.rest, m, s.row ++ [m / 11 % 997]⟩
def rIter (ns : List Int) : Nat → RS
  | 0 => ⟨if 0 < (ns.length : Int) ∧ (10 : Int) ^ 18 ≤ ns.getD 0 0 then ns.getD 0 0 else 0, 12345, []⟩
  | k + 1 => rStep ns k (rIter ns k)
def rowOf (ns : List Int) (many : Int) : List Int := (rIter ns many.toNat).row
theorem rIter_len (ns : List Int) : ∀ n, (rIter ns n).row.length = n
  | 0 => rfl
  | n + 1 => by
    unfold rIter rStep
    dsimp only
    split <;> simp [rIter_len ns n]
theorem rIter_ok (ns : List Int) : ∀ n, ∀ x ∈ (rIter ns n).row, 0 ≤ x ∧ x < 997
  | 0, x, h => by cases h
  | n + 1, x, h => by
    unfold rIter rStep at h
    dsimp only at h
    split at h
    all_goals
      rcases List.mem_append.mp h with h | h
      · exact rIter_ok ns n x h
      · rcases List.mem_singleton.mp h with rfl
        omega
theorem rIter_mixed (ns : List Int) : ∀ n, 0 ≤ (rIter ns n).mixed ∧ (rIter ns n).mixed < 2147483647
  | 0 => ⟨by show (0 : Int) ≤ 12345; decide, by show (12345 : Int) < _; decide⟩
  | n + 1 => by
    unfold rIter rStep
    dsimp only
    split <;> (dsimp only; omega)
theorem rr_row {K : PySem.W.Frag} {E : XK} {ns : List Int} {many : Int} {Δ : De} (h0 : 0 ≤ many) (h1 : many ≤ 100000)
    (q : Δ.rt (.ow (.lst ((rowOf ns many).map .int)))) : SvD K E [.im (.scr ns), .im (.int many), .no, .no, .no, .no, .no] (tc__law_row K) Δ := by
  unfold tc__law_row
  iterate 3 walk_at "pl_sv"
  refine sv_mid (fun ρ' => ρ' = [.im (.scr ns), .im (.int many), .im (.int (rIter ns 0).rest), .no, .no, .no, .no]) ?_ ?_
  · walk_at "pl_if"
    · intro hb
      simp only [Bool.and_eq_true, decide_eq_true_eq] at hb
      iterate 1 walk_at "pl_sv"
      show _ = _
      unfold rIter
      rw [if_pos ⟨hb.1, hb.2⟩]
    · intro hb
      walk_at "pl_sv"
      show _ = _
      unfold rIter
      have hb' : ¬ (0 < (ns.length : Int) ∧ (10 : Int) ^ 18 ≤ ns.getD 0 0) := and_false_not hb
      rw [if_neg hb']
  rintro _ rfl
  dsimp only
  walk_at "pl_go"
  refine sv_for (it_range (n := many) (ev_var (i := 1) rfl) (by omega) (by omega)) (fun i ρ' => ∃ s5 s6, ρ' = [.im (.scr ns), .im (.int many), .im (.int (rIter ns i).rest), .ow (.lst ((rIter ns i).row.map .int)), .im (.int (rIter ns i).mixed), s5, s6]) ⟨_, _, rfl⟩ ?_ ?_
  · rintro i _ hi ⟨s5, s6, rfl⟩
    have hm := rIter_mixed ns i
    refine ⟨_, tg_name, ?_⟩
    walk_at "pl_nx"
    iterate 2 walk_at "pl_sv"
    have hl : (List.map D.int (rIter ns i).row).length < 16777216 := by rw [List.length_map, rIter_len]; omega
    walk_at "pl_sv"
    refine sv_mid (fun ρ' => ρ' = [.im (.scr ns), .im (.int many), .im (.int (rIter ns i).rest), .ow (.lst ((rIter ns i).row.map .int)), .im (.int (rIter ns i).mixed), .im (.int i), .im (.int (cellOf ns i))]) ?_ ?_
    · walk_at "pl_if"
      · intro hb
        simp only [decide_eq_true_eq] at hb
        have h3 := Int.emod_nonneg (i : Int) (b := min (ns.length : Int) 63) (by omega)
        have h4 := Int.emod_lt_of_pos (i : Int) (b := min (ns.length : Int) 63) (by omega)
        walk_at "pl_sv"
        show _ = _
        unfold cellOf
        rw [if_pos hb]
      · intro hb
        simp only [decide_eq_false_iff_not] at hb
        walk_at "pl_sv"
        show _ = _
        unfold cellOf
        rw [if_neg hb]
    rintro _ rfl
    dsimp only
    walk_at "pl_go"
    have e : rIter ns (i + 1) = rStep ns i (rIter ns i) := rfl
    walk_at "pl_if"
    · intro hb
      simp only [decide_eq_true_eq] at hb
      walk_at "pl_go"
      refine ⟨.im (.int i), .im (.int (cellOf ns i)), ?_⟩
      rw [e]
      unfold rStep
      simp only [if_pos hb, List.map_append]
      rfl
    · intro hb
      simp only [decide_eq_false_iff_not] at hb
      walk_at "pl_go"
      refine ⟨.im (.int i), .im (.int (cellOf ns i)), ?_⟩
      rw [e]
      unfold rStep
      simp only [if_neg hb, List.map_append]
      rfl
  · rintro _ ⟨s5, s6, rfl⟩
    dsimp only
    walk_at "pl_go"
    exact q

mutual
def dsz : D → Nat
  | .lst l => 1 + dszL l
  | .tup l => 1 + dszL l
  | _ => 1
def dszL : List D → Nat
  | [] => 0
  | d :: l => dsz d + dszL l
end
theorem dszL_append : ∀ l m : List D, dszL (l ++ m) = dszL l + dszL m
  | [], m => by simp [dszL]
  | d :: l, m => by simp [dszL, dszL_append l m]; omega
theorem dszL_len : ∀ l : List D, l.length ≤ dszL l
  | [] => by simp [dszL]
  | d :: l => by
    have h : 1 ≤ dsz d := by cases d <;> simp [dsz] <;> omega
    have := dszL_len l
    simp [dszL]; omega
def twin (x : D) : D := .tup [x, x]
theorem good_twin {x : D} (h : good 50 x) : good 59 (twin x) := by
  intro d hd
  have e : d = x := by simpa using hd
  subst e
  exact good_up _ _ (good_up _ _ (good_up _ _ (good_up _ _ (good_up _ _ (good_up _ _ (good_up _ _ (good_up _ _ h)))))))
theorem good_lt {x : D} {l : List D} {n : Nat} (h : ∀ d ∈ l, good n d) (hx : x ∈ l) : good (n + 1) x := good_up _ _ (h x hx)
section
variable {K : PySem.W.Frag} {E : XK} {d : D} {Δ : De}
theorem rr_same_kids {l : List D} {w : List D} {s3 : Sl} (tp : Bool) (hl : l.length + w.length < 16777216) (q : ∀ s6, Δ.nx [.im d, .im d, .ow (.lst ((w ++ l).map twin)), s3, .im (if tp then .tup l else .lst l), .im (if tp then .tup l else .lst l), s6]) (s6 : Sl) :
    SvD K E [.im d, .im d, .ow (.lst (w.map twin)), s3, .im (if tp then .tup l else .lst l), .im (if tp then .tup l else .lst l), s6] (tFor (iRng1 (tCons (tCB (qLen K) (tCons (tVar 5) tNil)) tNil)) (gName 6)
      (tDrop (tBM K "list" rAppend (tVar 2) (tCons (tTup (tCons (tOp (rIx K) (tVar 4) (tVar 6)) (tCons (tOp (rIx K) (tVar 5) (tVar 6)) tNil))) tNil)))) Δ := by
  have hlen : EvD K [.im d, .im d, .ow (.lst (w.map twin)), s3, .im (if tp then .tup l else .lst l), .im (if tp then .tup l else .lst l), s6] (tCB (qLen K) (tCons (tVar 5) tNil)) (.int (l.length : Int)) := by
    cases tp
    · exact ev_cb (eb_cons (EvD.b (ev_var (i := 5) rfl)) eb_nil) c_len_lst
    · exact ev_cb (eb_cons (EvD.b (ev_var (i := 5) rfl)) eb_nil) c_len_tup
  have hx : ∀ (i : Nat) (x : D), l[i]? = some x → OpD K (rIx K) (if tp then .tup l else .lst l) (.int (i : Int)) x := fun i x hx => by
    have ha : atI l (i : Int) = some x := by
      rw [atI_nn (by omega) (by have := (List.getElem?_eq_some_iff.mp hx).1; omega)]; exact hx
    cases tp
    · exact ox_lst ha
    · exact ox_tup ha
  refine sv_for (it_range (n := (l.length : Int)) hlen (by omega) (by omega)) (fun i ρ' => ∃ s6, ρ' = [.im d, .im d, .ow (.lst ((w ++ l.take i).map twin)), s3, .im (if tp then .tup l else .lst l), .im (if tp then .tup l else .lst l), s6]) ⟨s6, by simp⟩ ?_ ?_
  · rintro i _ hi ⟨s6, rfl⟩
    have hi' : i < l.length := by omega
    refine ⟨_, tg_name, ?_⟩
    walk_at "pl_nx"
    have h1 := hx i l[i] (List.getElem?_eq_getElem hi')
    refine sv_app (d := twin l[i]) rfl (ev_tup (ea_cons (ev_op (EvD.b (ev_var (i := 4) rfl)) (EvD.b (ev_var (i := 6) rfl)) h1) (ea_cons (ev_op (EvD.b (ev_var (i := 5) rfl)) (EvD.b (ev_var (i := 6) rfl)) h1) ea_nil)) (by simp)) (by simp; omega) ?_
    refine ⟨.im (.int i), ?_⟩
    walk_at "pl_nx"
    have ht : l.take (i + 1) = l.take i ++ [l[i]] := by rw [List.take_succ, List.getElem?_eq_getElem hi']; rfl
    rw [ht]
    simp only [List.map_append, List.append_assoc, List.map_cons, List.map_nil]
  · rintro _ ⟨s6, rfl⟩
    have e : ((l.length : Int)).toNat = l.length := by omega
    rw [e, List.take_length]
    exact q s6
theorem rr_same (hg : good 50 d) (hs : dsz d < 200000) (q : Δ.rt (.im (.bl true))) : SvD K E [.im d, .im d, .no, .no, .no, .no, .no] (tc__law_same K) Δ := by
  unfold tc__law_same
  walk_at "pl_go"
  refine sv_for (it_range (n := 200000) ev_int (by omega) (by omega)) (fun i ρ' => ∃ (w : List D) (s3 s4 s5 s6 : Sl), ρ' = [.im d, .im d, .ow (.lst (w.map twin)), s3, s4, s5, s6] ∧ (∀ x ∈ w, good 50 x) ∧ i + dszL w ≤ dsz d) ⟨[d], .no, .no, .no, .no, rfl, by simpa using hg, by simp [dszL]⟩ ?_ ?_
  · rintro i _ hi ⟨w, s3, s4, s5, s6, rfl, hw, hz⟩
    refine ⟨_, tg_name, ?_⟩
    walk_at "pl_nx"
    have hgw : good 60 (.lst (w.map twin)) := fun x hx => by
      obtain ⟨y, hy, rfl⟩ := List.mem_map.mp hx
      exact good_twin (hw y hy)
    walk_at "pl_sv"
    refine sv_mid (fun ρ' => w ≠ [] ∧ ρ' = [.im d, .im d, .ow (.lst (w.map twin)), .im (.int i), s4, s5, s6]) ?_ ?_
    · refine sv_if (et_test (ev_op (evb_var rfl) (EvD.b (EvF.im (ef_lst ea_nil))) (oe_nil hgw))) (fun hb => ?_) fun hb => ?_
      · walk_at "pl_go"
        exact q
      · walk_at "pl_go"
        refine ⟨?_, rfl⟩
        rintro rfl
        simp at hb
    rintro _ ⟨hne, rfl⟩
    dsimp only
    obtain ⟨v, x, rfl⟩ : ∃ v x, w = v ++ [x] := ⟨w.dropLast, w.getLast hne, (List.dropLast_concat_getLast hne).symm⟩
    have hx : good 50 x := hw x (by simp)
    have hv : ∀ y ∈ v, good 50 y := fun y hy => hw y (by simp [hy])
    have hlen := dszL_len (v ++ [x])
    rw [dszL_append] at hz hlen
    have hlv : v.length < 200000 := by simp at hlen; omega
    walk_at "pl_sv"
    refine sv_asg (es_pop (l := v.map twin) (d := twin x) (by simp)) (tg_tup (tgs_cons tg_name (tgs_cons tg_name tgs_nil))) ?_
    walk_at "pl_nx"
    have fin : ∀ s4' s5', dsz x = 1 → (fun ρ' => ∃ (w : List D) (s3 s4 s5 s6 : Sl), ρ' = [.im d, .im d, .ow (.lst (w.map twin)), s3, s4, s5, s6] ∧ (∀ x ∈ w, good 50 x) ∧ i + 1 + dszL w ≤ dsz d) [.im d, .im d, .ow (.lst (v.map twin)), .im (.int i), s4', s5', s6] := fun s4' s5' h1 =>
      ⟨v, _, _, _, _, rfl, hv, by simp only [dszL] at hz; omega⟩
    have kids : ∀ (l : List D), (∀ y ∈ l, good 50 y) → dsz x = 1 + dszL l → ∀ s4' s5' s6', (fun ρ' => ∃ (w : List D) (s3 s4 s5 s6 : Sl), ρ' = [.im d, .im d, .ow (.lst (w.map twin)), s3, s4, s5, s6] ∧ (∀ x ∈ w, good 50 x) ∧ i + 1 + dszL w ≤ dsz d) [.im d, .im d, .ow (.lst ((v ++ l).map twin)), .im (.int i), s4', s5', s6'] := fun l h1 h2 s4' s5' s6' =>
      ⟨v ++ l, _, _, _, _, rfl, fun y hy => by
        rcases List.mem_append.mp hy with hy | hy
        · exact hv y hy
        · exact h1 y hy, by simp only [dszL] at hz; rw [dszL_append]; omega⟩
    have many : ∀ l : List D, dsz x = 1 + dszL l → l.length + v.length < 16777216 := fun l h => by
      have := dszL_len l
      simp only [dszL] at hz
      omega
    cases x with
    | non =>
      repeat' (first | walk_at "pl_if" | walk_at "pl_sv" | ((refine' fun (hb : @Eq Bool _ _) => ?_); first | (exfalso; revert hb; simp; done) | skip))
      all_goals exact fin _ _ rfl
    | bl b =>
      repeat' (first | walk_at "pl_if" | walk_at "pl_sv" | ((refine' fun (hb : @Eq Bool _ _) => ?_); first | (exfalso; revert hb; simp; done) | skip))
      all_goals exact fin _ _ rfl
    | int b =>
      repeat' (first | walk_at "pl_if" | walk_at "pl_sv" | ((refine' fun (hb : @Eq Bool _ _) => ?_); first | (exfalso; revert hb; simp; done) | skip))
      all_goals exact fin _ _ rfl
    | str b =>
      repeat' (first | walk_at "pl_if" | walk_at "pl_sv" | ((refine' fun (hb : @Eq Bool _ _) => ?_); first | (exfalso; revert hb; simp; done) | skip))
      all_goals exact fin _ _ rfl
    | lst l =>
      repeat' (first | walk_at "pl_if" | walk_at "pl_sv" | ((refine' fun (hb : @Eq Bool _ _) => ?_); first | (exfalso; revert hb; simp; done) | skip))
      exact rr_same_kids (tp := false) (l := l) (w := v) (many l rfl) (fun s6 => kids l (fun y hy => good_lt hx hy) rfl _ _ _) _
    | tup l =>
      repeat' (first | walk_at "pl_if" | walk_at "pl_sv" | ((refine' fun (hb : @Eq Bool _ _) => ?_); first | (exfalso; revert hb; simp; done) | skip))
      exact rr_same_kids (tp := true) (l := l) (w := v) (many l rfl) (fun s6 => kids l (fun y hy => good_lt hx hy) rfl _ _ _) _
    | dk _ _ => exact hx.elim
    | dt _ _ => exact hx.elim
    | ins _ _ _ => exact hx.elim
    | scr _ => exact hx.elim
  · rintro _ ⟨w, s3, s4, s5, s6, rfl, hw, hz⟩
    have : (200000 : Int).toNat = 200000 := rfl
    omega
end

section
variable {K : PySem.W.Frag} {ρ : List Sl} {i : Nat} {a dd D' X : Addr} {ns : List Str} {l : List D} {b : Bool} {T : String}
theorem ev_isxR (e : ρ[i]? = some (.ex a dd ns l)) (hC : ExcC K D') (hk : PySem.W.kitOne K (.ref D') (.ref X) = some b) : EvD K ρ (tCB (rIsX K a (.ref D') (some dd)) (tCons (tVar i) (tCons (tC (.ref X)) tNil))) (.bl b) :=
  ev_isx e hC rfl (fun u h => ⟨u, rfl, by cases h; exact hk⟩) ⟨_, rfl⟩ (fun u u' h h' => by cases h; cases h'; rfl)
theorem ev_isxT (e : ρ[i]? = some (.ex a dd ns l)) (hC : ExcC K D') (hk : PySem.W.kitOne K (.ref D') (.type T) = some b) : EvD K ρ (tCB (rIsX K a (.ref D') (some dd)) (tCons (tVar i) (tCons (tC (.ty T)) tNil))) (.bl b) :=
  ev_isx e hC rfl (fun u h => ⟨u, rfl, by cases h; exact hk⟩) ⟨_, rfl⟩ (fun u u' h h' => by cases h; cases h'; rfl)
end
theorem atI_map {α : Type} {f : α → D} {l : List α} {i : Int} (h0 : 0 ≤ i) (h1 : i < l.length) : atI (l.map f) i = some (f (l[i.toNat]'(by omega))) := by
  have hi : i.toNat < l.length := by omega
  rw [atI_nn h0 (by simpa using h1), List.getElem?_map, List.getElem?_eq_getElem hi]; rfl
theorem atI_mapN {α : Type} {f : α → D} {l : List α} {i : Nat} (h1 : i < l.length) : atI (l.map f) (i : Int) = some (f l[i]) := by
  rw [atI_nn (by omega) (by simp; omega), List.getElem?_map]
  simp [h1]
theorem getD_map {α : Type} {f : α → D} {l : List α} {i : Nat} (h1 : i < l.length) : (l.map f).getD i .non = f l[i] := by simp [List.getD, h1]

section
variable {K : PySem.W.Frag} {E : XK} {ρ : List Sl} {Δ : De} {i : Nat} {ty tv td tx te : TE} {d dx : D} {n : Int} {z : Str} {ks : List (List Key)} {l : List D} {π : List Nat} {x : Option Addr} {o : O}
theorem sv_dputIS (e : ρ[i]? = some (.ow (.dt ks l))) (hv : EvD K ρ tv d) (hk : EvD K ρ ty (.tup [.int n, .str z])) (hl : ks.length < 16777216) (q : Δ.nx (ρ.set i (.ow (.dt (putKs ks [.inl n, .inr z]) (putVs ks l [.inl n, .inr z] d))))) : SvD K E ρ (sDPut (tVar i) ty tv) Δ :=
  sv_dputT (k := [.inl n, .inr z]) e hv hk hl q
theorem ev_dinIS (hk : EvD K ρ ty (.tup [.int n, .str z])) (hd : EvB K ρ td (.dt ks l)) : EvD K ρ (tDIn ty td) (.bl (valD ks l [.inl n, .inr z]).isSome) := ev_din hk hd (.t ks l [.inl n, .inr z])
theorem ev_get2IS (hd : EvB K ρ td (.dt ks l)) (hk : EvD K ρ ty (.tup [.int n, .str z])) (hx : EvD K ρ tx dx) : EvD K ρ (tDGet2 td ty tx) ((valD ks l [.inl n, .inr z]).getD dx) := ev_get2 hd hk hx (.t ks l [.inl n, .inr z])
end

section
variable {K : PySem.W.Frag} {ρ : List Sl} {te te0 : TE} {tt : TT} {v : Nat} {α : Type} {wi : TI}
theorem outN_list {l : List α} {p : α → Bool} {Eo : α → D} (b : Nat → Bool) (e : Nat → D) (hb : ∀ i (h : i < l.length), b i = p l[i]) (he : ∀ i (h : i < l.length), e i = Eo l[i]) : ∀ n, n ≤ l.length → outN b e n = ((l.take n).filter p).map Eo
  | 0, _ => by simp [outN]
  | n + 1, h => by
    have hn : n < l.length := h
    have et : l.take (n + 1) = l.take n ++ [l[n]] := by rw [List.take_succ, List.getElem?_eq_getElem hn]; rfl
    unfold outN
    rw [outN_list b e hb he n (by omega), hb n hn, he n hn, et, List.filter_append, List.map_append]
    by_cases hp : p l[n] = true
    · simp [hp]
    · simp [hp]
theorem ef_lcG {l : List α} {f : Nat → D} (F : α → D) (p : α → Bool) (Eo : α → D) (h : ItD K ρ wi l.length f) (hf : ∀ i (h : i < l.length), f i = F l[i]) (hn : l.length ≤ 16777216)
    (hs : ∀ x ∈ l, EvT K (ρ.set v (.im (F x))) tt (p x) ∧ (p x = true → EvD K (ρ.set v (.im (F x))) te (Eo x))) : EvF K ρ (tLc wi (gName v) tt te [v]) (.lst ((l.filter p).map Eo)) := by
  have := ef_lc (vs := [v]) (g := gName v) (tt := tt) (te := te) (fun i => if h : i < l.length then p l[i] else false) (fun i => if h : i < l.length then Eo l[i] else .non) h hn fun i hi => by
    refine ⟨_, tw_name (by simp), ?_⟩
    have e : (wipeD ρ [v]).set v (.im (f i)) = ρ.set v (.im (F l[i])) := by rw [hf i hi]; show (ρ.set v .no).set v _ = _; rw [List.set_set]
    rw [e]
    simp only [hi, dif_pos]
    exact hs l[i] (List.getElem_mem hi)
  rw [outN_list (l := l) (p := p) (Eo := Eo) _ _ (fun i h => by simp only [h, dif_pos]) (fun i h => by simp only [h, dif_pos]) l.length (Nat.le_refl _), List.take_length] at this
  exact this
theorem ef_lcL {l : List α} {F : α → D} (p : α → Bool) (Eo : α → D) (h : EvD K ρ te0 (.lst (l.map F))) (hn : l.length ≤ 16777216)
    (hs : ∀ x ∈ l, EvT K (ρ.set v (.im (F x))) tt (p x) ∧ (p x = true → EvD K (ρ.set v (.im (F x))) te (Eo x))) : EvF K ρ (tLc (iList K te0) (gName v) tt te [v]) (.lst ((l.filter p).map Eo)) := by
  have h2 := it_list h
  rw [List.length_map] at h2
  exact ef_lcG F p Eo h2 (fun i hi => getD_map hi) hn hs
theorem ef_lcR {n : Int} (p : Nat → Bool) (Eo : Nat → D) (h : EvD K ρ te0 (.int n)) (hn : n ≤ 16777216) (hn0 : -16777216 ≤ n)
    (hs : ∀ x, x < n.toNat → EvT K (ρ.set v (.im (.int (x : Int)))) tt (p x) ∧ (p x = true → EvD K (ρ.set v (.im (.int (x : Int)))) te (Eo x))) : EvF K ρ (tLc (iRng1 (tCons te0 tNil)) (gName v) tt te [v]) (.lst (((List.range n.toNat).filter p).map Eo)) := by
  have h2 := it_range h (by omega) (by omega)
  rw [← List.length_range (n := n.toNat)] at h2
  exact ef_lcG (α := Nat) (l := List.range n.toNat) (fun x => .int (x : Int)) p Eo h2 (fun i hi => by rw [List.getElem_range]) (by rw [List.length_range]; omega) fun x hx => hs x (List.mem_range.mp hx)
end
end PL

set_option Elab.async false
set_option linter.all false
set_option maxRecDepth 100000
set_option maxHeartbeats 4000000
namespace K66
open PySem PySem.Spec PyProof.Rows L2 PL


structure Adr where
  w : World
  c_Fault : Addr
  c_TooMany : Addr
  c_BadMachine : Addr
  c_Machine : Addr


abbrev Mv := Int × Str × Int
abbrev dM (m : Mv) : D := .tup [.int m.1, .str m.2.1, .int m.2.2]
abbrev kM (m : Mv) : List Key := [.inl m.1, .inr m.2.1]
abbrev dI (l : List Int) : D := .lst (l.map .int)
abbrev dMs (l : List Mv) : D := .lst (l.map dM)
abbrev abc : Str := "abcdefghijklmnopqrstuvwxyz"
def okSt (n s : Int) : Bool := decide (0 ≤ s) && decide (s < n)
def okL (z : Str) : Bool := decide (z.cps.size = 1) && decide (z.cps.toList.getD 0 0 ∈ abc.cps.toList)
def okM (n : Int) (m : Mv) : Bool := okSt n m.1 && okSt n m.2.2 && okL m.2.1
def memB {κ : Type} [DecidableEq κ] (k : κ) (ks : List κ) : Bool := decide (k ∈ ks)
theorem memB_iff {κ : Type} [DecidableEq κ] {k : κ} {ks : List κ} : memB k ks = true ↔ k ∈ ks := decide_eq_true_iff
def goodAt (n : Int) (ms : List Mv) (i : Nat) : Bool := match ms[i]? with
  | some m => okM n m && !memB (kM m) ((ms.take i).map kM)
  | none => true
def firstBad (n : Int) (ms : List Mv) : Option Nat := (List.range ms.length).find? fun i => !goodAt n ms i
/-- the table of moves: keys, targets -/
def tab (ms : List Mv) : List (List Key) × List Int := ms.foldl (fun t m => (putKs t.1 (kM m), putVs t.1 t.2 (kM m) m.2.2)) ([], [])
def look (t : List (List Key) × List Int) (s : Int) (z : Str) : Int := match valD t.1 (t.2.map .int) [.inl s, .inr z] with
  | some (.int a) => a
  | _ => -1
def run (t : List (List Key) × List Int) (s : Int) (z : Str) : Int := z.cps.toList.foldl (fun h c => look t h ⟨#[c]⟩) s
/-- the states of acc, ascending -/
def asc (n : Int) (acc : List Int) : List Int := ((List.range n.toNat).map fun (i : Nat) => (i : Int)).filter fun s => decide (s ∈ acc)
def mach (a : Adr) (n : Int) (acc : List Int) (ms : List Mv) : O := .nd (.ins a.c_Machine ["states", "accepting", "moves", "_after"])
  [.fz (.int n), .fz (.tup ((asc n acc).map .int)), .fz (.tup (ms.map dM)), .nd (.dt (tab ms).1) (((tab ms).2.map D.int).map .fz)]
abbrev machD (a : Adr) (n : Int) (acc : List Int) (ms : List Mv) : D := .ins a.c_Machine ["states", "accepting", "moves", "_after"]
  [.int n, .tup ((asc n acc).map .int), .tup (ms.map dM), .dt (tab ms).1 ((tab ms).2.map .int)]
inductive MO where
  | many | bad (i : Int) | ok
def moOf (n : Int) (acc : List Int) (ms : List Mv) : MO :=
  if 16 < n then .many else if acc.all (okSt n) = true then (match firstBad n ms with | some i => .bad i | none => .ok) else .bad (-1)
def MO.due : MO → D
  | .many => .lst [.str "many", .int 16] | .bad i => .lst [.str "bad", .int i] | .ok => .lst [.str "machine", .int 0]
/-- what the texts' readings want of the laid classes -/
structure Kf (K : PySem.W.Frag) (a : Adr) : Prop where
  cM : Cls K a.c_Machine
  n1 : NoAttr K a.c_Machine "states"
  n2 : NoAttr K a.c_Machine "accepting"
  n3 : NoAttr K a.c_Machine "moves"
  n4 : NoAttr K a.c_Machine "_after"
  xT : PySem.W.exmOne K (.ref a.c_TooMany) (.ref a.c_Fault) = some true
  xB : PySem.W.exmOne K (.ref a.c_BadMachine) (.ref a.c_Fault) = some true
  eT : ExcC K a.c_TooMany
  eB : ExcC K a.c_BadMachine
  TT : PySem.W.kitOne K (.ref a.c_TooMany) (.ref a.c_TooMany) = some true
  TV : PySem.W.kitOne K (.ref a.c_TooMany) (.type "ValueError") = some true
  TB : PySem.W.kitOne K (.ref a.c_TooMany) (.ref a.c_BadMachine) = some false
  BB : PySem.W.kitOne K (.ref a.c_BadMachine) (.ref a.c_BadMachine) = some true
  BV : PySem.W.kitOne K (.ref a.c_BadMachine) (.type "ValueError") = some true
  BT : PySem.W.kitOne K (.ref a.c_BadMachine) (.ref a.c_TooMany) = some false
def okS (z : Str) : Prop := z.length ≤ 30 ∧ PySem.PyData.strOk z = true
structure Few (n : Int) (acc : List Int) (ms : List Mv) : Prop where
  n1 : -100000 ≤ n
  n2 : n ≤ 100000
  a : acc.length < 64
  m : ms.length < 1000
  l : ∀ m ∈ ms, okS m.2.1
/-- moves as they are drawn -/
structure Drawn (n : Int) (ms : List Mv) : Prop where
  ok : ∀ m ∈ ms, okM n m = true
  nd : (ms.map kM).Nodup
  len : ms.length ≤ 450
structure Row (row : List Int) (k : Nat) : Prop where
  len : k ≤ row.length
  few : row.length ≤ 100000
  ok : ∀ x ∈ row, 0 ≤ x ∧ x < 997
def R_is_state (a : Adr) : List D → Out → Prop := fun ds o => ∃ s n, ds = [.int s, .int n] ∧ o = .ret (.im (.bl (okSt n s)))
def R_Machine_init (a : Adr) : O → List D → OutI → Prop := fun o0 ds o => ∃ n acc ms, o0 = .nd (.ins a.c_Machine []) [] ∧ ds = [.int n, dI acc, dMs ms] ∧ Few n acc ms ∧
  o = match moOf n acc ms with | .many => .exc a.c_TooMany ["limit"] [.int 16] | .bad i => .exc a.c_BadMachine ["place"] [.int i] | .ok => .ret (mach a n acc ms)
def R_Machine_state_after (a : Adr) : List D → Out → Prop := fun ds o => ∃ n acc ms z s, ds = [machD a n acc ms, .str z, .int s] ∧ o = .ret (.im (.int (run (tab ms) s z)))
def R_Machine_callm (a : Adr) : List D → Out → Prop := fun ds o => ∃ n acc ms z, ds = [machD a n acc ms, .str z] ∧ o = .ret (.im (.bl (decide (run (tab ms) 0 z ∈ asc n acc))))
def R__law_row (a : Adr) : List D → Out → Prop := fun ds o => ∃ ns many, ds = [.scr ns, .int many] ∧ 0 ≤ many ∧ many ≤ 100000 ∧ o = .ret (.ow (dI (rowOf ns many)))
def R__law_same (a : Adr) : List D → Out → Prop := fun ds o => ∃ d, ds = [d, d] ∧ good 50 d ∧ dsz d < 200000 ∧ o = .ret (.im (.bl true))
def R__law_drawn_moves (a : Adr) : List D → (Sl → Prop) → Prop := fun ds P => ∃ row n many, ds = [dI row, .int n, .int many] ∧ Row row 10 ∧ 1 ≤ n ∧ n ≤ 17 ∧ 0 ≤ many ∧ many ≤ 26 ∧ P = fun s => ∃ ms, s = .ow (dMs ms) ∧ Drawn n ms
def R__law_spoilt (a : Adr) : List D → (Sl → Prop) → Prop := fun ds P => ∃ ms n row, ds = [dMs ms, .int n, dI row] ∧ Row row 5 ∧ 1 ≤ n ∧ n ≤ 17 ∧ ms.length ≤ 500 ∧ (∀ m ∈ ms, okS m.2.1) ∧
  P = fun s => ∃ ms', s = .ow (dMs ms') ∧ ms'.length = ms.length + 1 ∧ ∀ m ∈ ms', okS m.2.1
def R__law_first_bad (a : Adr) : List D → Out → Prop := fun ds o => ∃ n ms, ds = [.int n, dMs ms] ∧ Few n [] ms ∧ o = .ret (.im (.int (match firstBad n ms with | some i => (i : Int) | none => -1)))
def R__law_due (a : Adr) : List D → Out → Prop := fun ds o => ∃ n acc ms, ds = [.int n, dI acc, dMs ms] ∧ Few n acc ms ∧ o = .ret (.ow (moOf n acc ms).due)
def R__law_made (a : Adr) : List D → Out → Prop := fun ds o => ∃ n acc ms, ds = [.int n, dI acc, dMs ms] ∧ Few n acc ms ∧ o = .ret (.ow (.lst [(moOf n acc ms).due, match moOf n acc ms with | .ok => machD a n acc ms | _ => .non]))
def R__law_table (a : Adr) : List D → Out → Prop := fun ds o => ∃ ms, ds = [dMs ms] ∧ ms.length < 1000 ∧ o = .ret (.ow (.dt (tab ms).1 ((tab ms).2.map .int)))
def R__law_reads (a : Adr) : List D → Out → Prop := fun ds o => ∃ n acc ms, ∃ ws : List Str, ds = [machD a n acc ms, .int n, dI acc, dMs ms, .lst (ws.map .str)] ∧ Few n acc ms ∧ acc.all (okSt n) = true ∧ (∀ w ∈ ws, w.length ≤ 40000) ∧ o = .ret (.im (.bl true))
def R__law_words (a : Adr) : List D → (Sl → Prop) → Prop := fun ds P => ∃ row many, ds = [dI row, .int many] ∧ Row row 50 ∧ 1 ≤ many ∧ many ≤ 26 ∧ P = fun s => ∃ ws : List Str, s = .ow (.lst (ws.map .str)) ∧ ∀ w ∈ ws, w.length ≤ 40000
def R__law_world (a : Adr) : List D → (Sl → Prop) → Prop := fun ds P => ∃ row, ds = [dI row] ∧ Row row 150 ∧ P = fun s => ∃ n acc gd ms, ∃ ws : List Str, s = .ow (.lst [.int n, dI acc, dI gd, dMs ms, .lst (ws.map .str)]) ∧ 1 ≤ n ∧ n ≤ 17 ∧ acc.length < 40 ∧ gd.length < 40 ∧ gd.all (okSt n) = true ∧ Drawn n ms ∧ ∀ w ∈ ws, w.length ≤ 40000
def R__law_holds (a : Adr) : List D → Out → Prop := fun ds o => ∃ n acc ms, ∃ ws : List Str, ds = [.int n, dI acc, dMs ms, .lst (ws.map .str)] ∧ Few n acc ms ∧ (∀ w ∈ ws, w.length ≤ 40000) ∧ o = .ret (.im (.bl true))
def R_law (a : Adr) : List D → Out → Prop := fun ds o => ∃ ns, ds = [.scr ns] ∧ o = .ret (.im (.bl true))

def t_is_state (K : PySem.W.Frag) (a : Adr) (E : XK) : TS :=
  tRet (tChain qLeI qLtI (tC (.int 0)) (tVar 0) (tVar 1))
def t_Machine_init (K : PySem.W.Frag) (a : Adr) (E : XK) : TS :=
  tSeq (tIfS (tTest (tOp qGtI (tVar 1) (tC (.int 16)))) (tRaiseF a.c_TooMany "limit" E (tCons (tC (.int 16)) (tNil))) (tNext))
    (tSeq (tFor (iList K (tVar 2)) (gName 4) (tIfS (tNot (tB (tCall (spD K (R_is_state a)) [] E0 (tCons (tVar 4) (tCons (tVar 1) (tNil)))))) (tRaiseF a.c_BadMachine "place" E (tCons (tUn qNegI (tC (.int 1))) (tNil))) (tNext)))
    (tSeq (sFld K (tVar 0) (tVar 1) "states")
    (tSeq (sFld K (tVar 0) (tCB (qTupOf K) (tCons (tCB (rSortedSet a.w) (tCons (tCB (rSetI K a.w) (tCons (tVar 2) (tNil))) (tNil))) (tNil))) "accepting")
    (tSeq (sFld K (tVar 0) (tCB (qTupOf K) (tCons (tVar 3) (tNil))) "moves")
    (tSeq (sFld K (tVar 0) (tDNewT) "_after")
    (tFor (iEnumT K (tCons (tFld K (tVar 0) "moves") (tNil))) (gTup K 2 (gCons (gName 5) (gCons (gTup K 3 (gCons (gName 4) (gCons (gName 6) (gCons (gName 7) (gNil))))) (gNil)))) (tSeq (tAsg (tOrV (tNotV (tCall (spD K (R_is_state a)) [] E0 (tCons (tVar 4) (tCons (tVar 1) (tNil))))) (tNotV (tCall (spD K (R_is_state a)) [] E0 (tCons (tVar 7) (tCons (tVar 1) (tNil)))))) (gName 8))
      (tSeq (tIfS (tOr (tB (tVar 8)) (tOr (tTest (tOp (rNeU K) (tCB (qLen K) (tCons (tVar 6) (tNil))) (tC (.int 1)))) (tOr (tTest (tOp (rNInU K) (tVar 6) (tC (.str "abcdefghijklmnopqrstuvwxyz")))) (tB (tDIn (tTup (tCons (tVar 4) (tCons (tVar 6) (tNil)))) (tFld K (tVar 0) "_after")))))) (tRaiseF a.c_BadMachine "place" E (tCons (tVar 5) (tNil))) (tNext))
      (sDPut (tFld K (tVar 0) "_after") (tTup (tCons (tVar 4) (tCons (tVar 6) (tNil)))) (tVar 7))))))))))
def t_Machine_state_after (K : PySem.W.Frag) (a : Adr) (E : XK) : TS :=
  tSeq (tAsg (tVar 2) (gName 3))
    (tSeq (tFor (iStr (tVar 1)) (gName 4) (tAsg (tDGet2 (tFld K (tVar 0) "_after") (tTup (tCons (tVar 3) (tCons (tVar 4) (tNil)))) (tUn qNegI (tC (.int 1)))) (gName 3)))
    (tRet (tVar 3)))
def t_Machine_callm (K : PySem.W.Frag) (a : Adr) (E : XK) : TS :=
  tRet (tOp (rInU K) (tMeth a.c_Machine "state_after" (spD K (R_Machine_state_after a)) [.int 0] E0 (tVar 0) (tCons (tVar 1) (tNil))) (tFld K (tVar 0) "accepting"))
def t__law_row (K : PySem.W.Frag) (a : Adr) (E : XK) : TS :=
  tc__law_row K
def t__law_same (K : PySem.W.Frag) (a : Adr) (E : XK) : TS :=
  tc__law_same K
def t__law_drawn_moves (K : PySem.W.Frag) (a : Adr) (E : XK) : TS :=
  tSeq (tAsg (tC (.str "abcdefghijklmnopqrstuvwxyz")) (gName 3))
    (tSeq (tAsg (tLst (tNil)) (gName 4))
    (tSeq (tFor (iRng1 (tCons (tVar 1) (tNil))) (gName 5) (tFor (iRng1 (tCons (tVar 2) (tNil))) (gName 6) (tSeq (tAsg (tOp (rAddU K) (tOp (rAddU K) (tCB (qInt) (tCons (tOp (rIx K) (tVar 0) (tOp (qModI) (tCB (qInt) (tCons (tOp (rAddU K) (tOp (rAddU K) (tOp (rMulU) (tVar 5) (tC (.int 5))) (tOp (rMulU) (tVar 6) (tC (.int 3)))) (tC (.int 20))) (tNil))) (tCB (qLen K) (tCons (tVar 0) (tNil))))) (tNil))) (tOp (rMulU) (tC (.int 3)) (tVar 5))) (tVar 6)) (gName 7))
        (tIfS (tTest (tOp qGtI (tOp (qModI) (tCB (qInt) (tCons (tVar 7) (tNil))) (tC (.int 8))) (tC (.int 0)))) (tDrop (tBM K "list" rAppend (tVar 4) (tCons (tTup (tCons (tVar 5) (tCons (tOp (rIx K) (tVar 3) (tOp (qModI) (tCB (qInt) (tCons (tOp (rAddU K) (tOp (rIx K) (tVar 0) (tC (.int 3))) (tVar 6)) (tNil))) (tC (.int 26)))) (tCons (tOp (qModI) (tCB (qInt) (tCons (tOp (qFdvI) (tVar 7) (tC (.int 8))) (tNil))) (tVar 1)) (tNil))))) (tNil)))) (tNext)))))
    (tSeq (tIfS (tTest (tOp (rEqU K) (tVar 4) (tLst (tNil)))) (tRet (tVar 4)) (tNext))
    (tSeq (tAsg (tOp (qModI) (tCB (qInt) (tCons (tOp (rIx K) (tVar 0) (tC (.int 4))) (tNil))) (tCB (qLen K) (tCons (tVar 4) (tNil)))) (gName 8))
    (tSeq (tAsg (tOp (rAddU K) (tSl (rSlU K) (tVar 4) (tPart (tVar 8)) (tNoPart)) (tSl (rSlU K) (tVar 4) (tNoPart) (tPart (tVar 8)))) (gName 4))
    (tSeq (tIfS (tTest (tOp (rEqU K) (tOp (qModI) (tCB (qInt) (tCons (tOp (rIx K) (tVar 0) (tC (.int 5))) (tNil))) (tC (.int 2))) (tC (.int 0)))) (tRet (tRevL K (tVar 4))) (tNext))
    (tRet (tVar 4))))))))
def t__law_spoilt (K : PySem.W.Frag) (a : Adr) (E : XK) : TS :=
  tSeq (tAsg (tOp (qModI) (tCB (qInt) (tCons (tOp (rIx K) (tVar 2) (tC (.int 0))) (tNil))) (tOp (rAddU K) (tCB (qLen K) (tCons (tVar 0) (tNil))) (tC (.int 1)))) (gName 3))
    (tSeq (tAsg (tOp (rIx K) (tC (.str "abcdefghijklmnopqrstuvwxyz")) (tOp (qModI) (tCB (qInt) (tCons (tOp (rIx K) (tVar 2) (tC (.int 1))) (tNil))) (tC (.int 26)))) (gName 4))
    (tSeq (tAsg (tOp (qModI) (tCB (qInt) (tCons (tOp (rIx K) (tVar 2) (tC (.int 2))) (tNil))) (tVar 1)) (gName 5))
    (tSeq (tAsg (tLst (tCons (tTup (tCons (tUn qNegI (tC (.int 1))) (tCons (tVar 4) (tCons (tVar 5) (tNil))))) (tCons (tTup (tCons (tVar 1) (tCons (tVar 4) (tCons (tVar 5) (tNil))))) (tCons (tTup (tCons (tVar 5) (tCons (tVar 4) (tCons (tVar 1) (tNil))))) (tCons (tTup (tCons (tVar 5) (tCons (tVar 4) (tCons (tUn qNegI (tC (.int 1))) (tNil))))) (tNil)))))) (gName 6))
    (tSeq (tAsg (tSl (rSlU K) (tC (.str "abcdefghijklmnopqrstuvwxyz")) (tPart (tOp (qModI) (tCB (qInt) (tCons (tOp (rIx K) (tVar 2) (tC (.int 1))) (tNil))) (tC (.int 25)))) (tPart (tOp (rAddU K) (tOp (qModI) (tCB (qInt) (tCons (tOp (rIx K) (tVar 2) (tC (.int 1))) (tNil))) (tC (.int 25))) (tC (.int 2))))) (gName 7))
    (tSeq (tAsg (tOp (rAddU K) (tVar 6) (tLst (tCons (tTup (tCons (tVar 5) (tCons (tC (.str "")) (tCons (tVar 5) (tNil))))) (tCons (tTup (tCons (tVar 5) (tCons (tVar 7) (tCons (tVar 5) (tNil))))) (tCons (tTup (tCons (tVar 5) (tCons (tOp (rAddU K) (tVar 4) (tVar 4)) (tCons (tVar 5) (tNil))))) (tNil)))))) (gName 6))
    (tSeq (tAsg (tOp (rAddU K) (tVar 6) (tLst (tCons (tTup (tCons (tVar 5) (tCons (tC (.str "A")) (tCons (tVar 5) (tNil))))) (tCons (tTup (tCons (tVar 5) (tCons (tC (.str " ")) (tCons (tVar 5) (tNil))))) (tCons (tTup (tCons (tVar 5) (tCons (tC (.str "{")) (tCons (tVar 5) (tNil))))) (tCons (tTup (tCons (tVar 5) (tCons (tC (.str "`")) (tCons (tVar 5) (tNil))))) (tNil))))))) (gName 6))
    (tSeq (tAsg (tOp (qModI) (tCB (qInt) (tCons (tOp (rIx K) (tVar 2) (tC (.int 3))) (tNil))) (tC (.int 15))) (gName 8))
    (tSeq (tAsg (tOp (rIx K) (tVar 6) (tOp (qModI) (tCB (qInt) (tCons (tVar 8) (tNil))) (tC (.int 11)))) (gName 9))
    (tSeq (tIfS (tAnd (tTest (tOp qGtI (tVar 8) (tC (.int 10)))) (tTest (tOp qGtI (tVar 3) (tC (.int 0))))) (tSeq (tAsg (tOp (rIx K) (tVar 0) (tOp (qModI) (tCB (qInt) (tCons (tOp (rIx K) (tVar 2) (tC (.int 4))) (tNil))) (tVar 3))) (gName 10))
      (tAsg (tTup (tCons (tOp (rIx K) (tVar 10) (tC (.int 0))) (tCons (tOp (rIx K) (tVar 10) (tC (.int 1))) (tCons (tOp (rIx K) (tLst (tCons (tVar 5) (tCons (tOp (rIx K) (tVar 10) (tC (.int 2))) (tNil)))) (tOp (qModI) (tCB (qInt) (tCons (tVar 8) (tNil))) (tC (.int 2)))) (tNil))))) (gName 9))) (tNext))
    (tRet (tOp (rAddU K) (tOp (rAddU K) (tSl (rSlU K) (tVar 0) (tNoPart) (tPart (tVar 3))) (tLst (tCons (tVar 9) (tNil)))) (tSl (rSlU K) (tVar 0) (tPart (tVar 3)) (tNoPart)))))))))))))
def t__law_first_bad (K : PySem.W.Frag) (a : Adr) (E : XK) : TS :=
  tSeq (tAsg (tDNewT) (gName 2))
    (tSeq (tFor (iRng1 (tCons (tCB (qLen K) (tCons (tVar 1) (tNil))) (tNil))) (gName 3) (tSeq (tAsg (tOp (rIx K) (tVar 1) (tVar 3)) (gTup K 3 (gCons (gName 4) (gCons (gName 5) (gCons (gName 6) (gNil))))))
      (tSeq (tIfS (tOr (tNot (tTest (tChain qLeI qLtI (tC (.int 0)) (tVar 4) (tVar 0)))) (tNot (tTest (tChain qLeI qLtI (tC (.int 0)) (tVar 6) (tVar 0))))) (tRet (tVar 3)) (tNext))
      (tSeq (tIfS (tOr (tTest (tOp (rNeU K) (tCB (qLen K) (tCons (tVar 5) (tNil))) (tC (.int 1)))) (tOr (tTest (tOp (rNInU K) (tVar 5) (tC (.str "abcdefghijklmnopqrstuvwxyz")))) (tB (tDIn (tTup (tCons (tVar 4) (tCons (tVar 5) (tNil)))) (tVar 2))))) (tRet (tVar 3)) (tNext))
      (sDPut (tVar 2) (tTup (tCons (tVar 4) (tCons (tVar 5) (tNil)))) (tC (.bl true)))))))
    (tRet (tUn qNegI (tC (.int 1)))))
def t__law_due (K : PySem.W.Frag) (a : Adr) (E : XK) : TS :=
  tSeq (tIfS (tTest (tOp qGtI (tVar 0) (tC (.int 16)))) (tRet (tLst (tCons (tC (.str "many")) (tCons (tC (.int 16)) (tNil))))) (tNext))
    (tSeq (tIfS (tTest (tOp (rNeU K) (tLc (iList K (tVar 1)) (gName 3) (tNot (tTest (tChain qLeI qLtI (tC (.int 0)) (tVar 3) (tVar 0)))) (tVar 3) [3]) (tLst (tNil)))) (tRet (tLst (tCons (tC (.str "bad")) (tCons (tUn qNegI (tC (.int 1))) (tNil))))) (tNext))
    (tSeq (tAsg (tCall (spD K (R__law_first_bad a)) [] E0 (tCons (tVar 0) (tCons (tVar 2) (tNil)))) (gName 4))
    (tSeq (tIfS (tTest (tOp qGeI (tVar 4) (tC (.int 0)))) (tRet (tLst (tCons (tC (.str "bad")) (tCons (tVar 4) (tNil))))) (tNext))
    (tRet (tLst (tCons (tC (.str "machine")) (tCons (tC (.int 0)) (tNil))))))))
def t__law_made (K : PySem.W.Frag) (a : Adr) (E : XK) : TS :=
  tSeq (tAsg (tLst (tCons (tCB (qListOf K) (tCons (tVar 1) (tNil))) (tCons (tCB (qListOf K) (tCons (tVar 2) (tNil))) (tNil)))) (gName 3))
    (tSeq (tAsg (tC .non) (gName 4))
    (tSeq (tAsg (tLst (tCons (tC (.str "machine")) (tCons (tC (.int 0)) (tNil)))) (gName 5))
    (tSeq (tTryA K (.ref a.c_Fault) 6 (fun W => tAsg (tMakeS a.c_Machine (spI K (R_Machine_init a)) [] (WE W) (tCons (tVar 0) (tCons (tOp (rIx K) (tVar 3) (tC (.int 0))) (tCons (tOp (rIx K) (tVar 3) (tC (.int 1))) (tNil))))) (gName 4)) (fun ea cls d => tSeq (tAsg (tLst (tCons (tC (.str "other")) (tCons (tC (.int 0)) (tNil)))) (gName 5))
      (tSeq (tIfS (tAnd (tB (tCB (rIsX K ea cls d) (tCons (tVar 6) (tCons (tC (.ref a.c_TooMany)) (tNil))))) (tAnd (tB (tCB (rIsX K ea cls d) (tCons (tVar 6) (tCons (tC (.ty "ValueError")) (tNil))))) (tNot (tB (tCB (rIsX K ea cls d) (tCons (tVar 6) (tCons (tC (.ref a.c_BadMachine)) (tNil)))))))) (tAsg (tLst (tCons (tC (.str "many")) (tCons (tXf ea cls d a.c_TooMany "limit" (tVar 6)) (tNil)))) (gName 5)) (tNext))
      (tIfS (tAnd (tB (tCB (rIsX K ea cls d) (tCons (tVar 6) (tCons (tC (.ref a.c_BadMachine)) (tNil))))) (tAnd (tB (tCB (rIsX K ea cls d) (tCons (tVar 6) (tCons (tC (.ty "ValueError")) (tNil))))) (tNot (tB (tCB (rIsX K ea cls d) (tCons (tVar 6) (tCons (tC (.ref a.c_TooMany)) (tNil)))))))) (tAsg (tLst (tCons (tC (.str "bad")) (tCons (tXf ea cls d a.c_BadMachine "place" (tVar 6)) (tNil)))) (gName 5)) (tNext)))))
    (tSeq (tIfS (tTest (tOp (rNeU K) (tVar 3) (tLst (tCons (tVar 1) (tCons (tVar 2) (tNil)))))) (tAsg (tLst (tCons (tC (.str "other")) (tCons (tC (.int 1)) (tNil)))) (gName 5)) (tNext))
    (tSeq (tDrop (tBM K "list" rAppend (tOp (rIx K) (tVar 3) (tC (.int 0))) (tCons (tC (.int 0)) (tNil))))
    (tSeq (tDrop (tBM K "list" rAppend (tOp (rIx K) (tVar 3) (tC (.int 1))) (tCons (tTup (tCons (tC (.int 0)) (tCons (tC (.str "q")) (tCons (tC (.int 0)) (tNil))))) (tNil))))
    (tRet (tLst (tCons (tVar 5) (tCons (tVar 4) (tNil)))))))))))
def t__law_table (K : PySem.W.Frag) (a : Adr) (E : XK) : TS :=
  tSeq (tAsg (tDNewT) (gName 1))
    (tSeq (tFor (iList K (tVar 0)) (gName 2) (sDPut (tVar 1) (tTup (tCons (tOp (rIx K) (tVar 2) (tC (.int 0))) (tCons (tOp (rIx K) (tVar 2) (tC (.int 1))) (tNil)))) (tOp (rIx K) (tVar 2) (tC (.int 2)))))
    (tRet (tVar 1)))
def t__law_reads (K : PySem.W.Frag) (a : Adr) (E : XK) : TS :=
  tSeq (tAsg (tLc (iRng1 (tCons (tVar 1) (tNil))) (gName 6) (tTest (tOp (rInU K) (tVar 6) (tVar 2))) (tVar 6) [6]) (gName 5))
    (tSeq (tIfS (tNot (tB (tCall (spD K (R__law_same a)) [] E0 (tCons (tLst (tCons (tFld K (tVar 0) "states") (tCons (tFld K (tVar 0) "accepting") (tCons (tFld K (tVar 0) "moves") (tNil))))) (tCons (tLst (tCons (tVar 1) (tCons (tCB (qTupOf K) (tCons (tVar 5) (tNil))) (tCons (tCB (qTupOf K) (tCons (tVar 3) (tNil))) (tNil))))) (tNil)))))) (tRet (tC (.bl false))) (tNext))
    (tSeq (tAsg (tCall (spD K (R__law_table a)) [] E0 (tCons (tVar 3) (tNil))) (gName 7))
    (tSeq (tFor (iList K (tVar 4)) (gName 8) (tFor (iRng1 (tCons (tVar 1) (tNil))) (gName 6) (tSeq (tIfS (tAnd (tTest (tOp qGtI (tCB (qLen K) (tCons (tVar 8) (tNil))) (tC (.int 20)))) (tAnd (tTest (tOp (rNeU K) (tVar 6) (tC (.int 0)))) (tTest (tOp (rNeU K) (tVar 6) (tOp (qSubI) (tVar 1) (tC (.int 1))))))) (tCont) (tNext))
        (tSeq (tAsg (tVar 6) (gName 9))
        (tSeq (tFor (iStr (tVar 8)) (gName 10) (tAsg (tDGet2 (tVar 7) (tTup (tCons (tVar 9) (tCons (tVar 10) (tNil)))) (tUn qNegI (tC (.int 1)))) (gName 9)))
        (tSeq (tIfS (tNot (tB (tCall (spD K (R__law_same a)) [] E0 (tCons (tMeth a.c_Machine "state_after" (spD K (R_Machine_state_after a)) [] E0 (tVar 0) (tCons (tVar 8) (tCons (tVar 6) (tNil)))) (tCons (tVar 9) (tNil)))))) (tRet (tC (.bl false))) (tNext))
        (tIfS (tAnd (tTest (tOp (rEqU K) (tVar 6) (tC (.int 0)))) (tNot (tB (tCall (spD K (R__law_same a)) [] E0 (tCons (tLst (tCons (tMeth a.c_Machine "state_after" (spD K (R_Machine_state_after a)) [.int 0] E0 (tVar 0) (tCons (tVar 8) (tNil))) (tCons (tOC a.c_Machine (spD K (R_Machine_callm a)) E0 (tVar 0) (tCons (tVar 8) (tNil))) (tNil)))) (tCons (tLst (tCons (tVar 9) (tCons (tOp (rInU K) (tVar 9) (tVar 2)) (tNil)))) (tNil))))))) (tRet (tC (.bl false))) (tNext))))))))
    (tRet (tC (.bl true))))))
def t__law_words (K : PySem.W.Frag) (a : Adr) (E : XK) : TS :=
  tSeq (tAsg (tC (.str "abcdefghijklmnopqrstuvwxyz")) (gName 2))
    (tSeq (tAsg (tLst (tCons (tC (.str "")) (tCons (tC (.str "A")) (tCons (tOp (rIx K) (tVar 2) (tOp (qModI) (tCB (qInt) (tCons (tOp (rIx K) (tVar 0) (tC (.int 10))) (tNil))) (tC (.int 26)))) (tNil))))) (gName 3))
    (tSeq (tFor (iRng1 (tCons (tC (.int 4)) (tNil))) (gName 4) (tSeq (tAsg (tC (.str "")) (gName 5))
      (tSeq (tFor (iRng1 (tCons (tOp (qModI) (tCB (qInt) (tCons (tOp (rIx K) (tVar 0) (tCB (qInt) (tCons (tOp (rAddU K) (tC (.int 11)) (tVar 4)) (tNil)))) (tNil))) (tC (.int 31))) (tNil))) (gName 6) (tAsg (tOp (rAddU K) (tVar 5) (tOp (rIx K) (tVar 2) (tOp (qModI) (tCB (qInt) (tCons (tOp (rAddU K) (tOp (rIx K) (tVar 0) (tC (.int 3))) (tOp (qModI) (tCB (qInt) (tCons (tOp (rIx K) (tVar 0) (tOp (qModI) (tCB (qInt) (tCons (tOp (rAddU K) (tOp (rAddU K) (tOp (rMulU) (tVar 6) (tC (.int 3))) (tOp (rMulU) (tVar 4) (tC (.int 40)))) (tC (.int 20))) (tNil))) (tCB (qLen K) (tCons (tVar 0) (tNil))))) (tNil))) (tVar 1))) (tNil))) (tC (.int 26))))) (gName 5)))
      (tDrop (tBM K "list" rAppend (tVar 3) (tCons (tVar 5) (tNil)))))))
    (tSeq (tDrop (tBM K "list" rAppend (tVar 3) (tCons (tOp (rAddU K) (tOp (rAddU K) (tOp (rIx K) (tVar 3) (tC (.int 3))) (tC (.str " "))) (tOp (rIx K) (tVar 3) (tC (.int 4)))) (tNil))))
    (tSeq (tDrop (tBM K "list" rAppend (tVar 3) (tCons (tOp (rAddU K) (tOp (rAddU K) (tOp (rIx K) (tVar 3) (tC (.int 4))) (tOp (rIx K) (tVar 2) (tOp (qModI) (tCB (qInt) (tCons (tOp (rAddU K) (tOp (rIx K) (tVar 0) (tC (.int 3))) (tC (.int 25))) (tNil))) (tC (.int 26))))) (tOp (rIx K) (tVar 3) (tC (.int 5)))) (tNil))))
    (tSeq (tIfS (tAnd (tTest (tOp qGtI (tCB (qLen K) (tCons (tOp (rIx K) (tVar 3) (tC (.int 6))) (tNil))) (tC (.int 0)))) (tTest (tOp (rEqU K) (tOp (qModI) (tCB (qInt) (tCons (tOp (rIx K) (tVar 0) (tC (.int 15))) (tNil))) (tC (.int 4))) (tC (.int 1))))) (tDrop (tBM K "list" rAppend (tVar 3) (tCons (tSl (rSlU K) (tOp (rMulU) (tOp (rIx K) (tVar 3) (tC (.int 6))) (tC (.int 999))) (tNoPart) (tPart (tOp (rAddU K) (tCB (qInt) (tCons (tOp (rIx K) (tVar 0) (tC (.int 16))) (tNil))) (tC (.int 3))))) (tNil)))) (tNext))
    (tRet (tVar 3)))))))
def t__law_world (K : PySem.W.Frag) (a : Adr) (E : XK) : TS :=
  tSeq (tAsg (tOp (rAddU K) (tC (.int 1)) (tOp (qModI) (tCB (qInt) (tCons (tOp (rIx K) (tVar 0) (tC (.int 0))) (tNil))) (tC (.int 15)))) (gName 1))
    (tSeq (tIfS (tTest (tOp (rEqU K) (tOp (qModI) (tCB (qInt) (tCons (tOp (rIx K) (tVar 0) (tC (.int 1))) (tNil))) (tC (.int 4))) (tC (.int 1)))) (tAsg (tOp (rAddU K) (tC (.int 16)) (tOp (qModI) (tCB (qInt) (tCons (tOp (rIx K) (tVar 0) (tC (.int 0))) (tNil))) (tC (.int 2)))) (gName 1)) (tNext))
    (tSeq (tAsg (tOp (rIx K) (tLst (tCons (tC (.int 3)) (tCons (tC (.int 26)) (tNil)))) (tCB (qInt) (tCons (tOp (rEqU K) (tOp (qModI) (tCB (qInt) (tCons (tOp (rIx K) (tVar 0) (tC (.int 2))) (tNil))) (tC (.int 4))) (tC (.int 1))) (tNil)))) (gName 2))
    (tSeq (tAsg (tLc (iRng1 (tCons (tOp (qModI) (tCB (qInt) (tCons (tOp (rIx K) (tVar 0) (tC (.int 6))) (tNil))) (tC (.int 25))) (tNil))) (gName 4) (tYes) (tOp (qModI) (tCB (qInt) (tCons (tOp (rIx K) (tVar 0) (tCB (qInt) (tCons (tOp (rAddU K) (tC (.int 30)) (tVar 4)) (tNil)))) (tNil))) (tVar 1)) [4]) (gName 3))
    (tSeq (tAsg (tCB (qListOf K) (tCons (tVar 3) (tNil))) (gName 5))
    (tSeq (tIfS (tTest (tOp (rEqU K) (tOp (qModI) (tCB (qInt) (tCons (tOp (rIx K) (tVar 0) (tC (.int 7))) (tNil))) (tC (.int 6))) (tC (.int 1)))) (tDrop (tBM K "list" qInsert (tVar 3) (tCons (tOp (qModI) (tCB (qInt) (tCons (tOp (rIx K) (tVar 0) (tC (.int 8))) (tNil))) (tOp (rAddU K) (tCB (qLen K) (tCons (tVar 3) (tNil))) (tC (.int 1)))) (tCons (tOp (rIx K) (tLst (tCons (tUn qNegI (tC (.int 1))) (tCons (tVar 1) (tCons (tOp (rAddU K) (tVar 1) (tC (.int 9))) (tNil))))) (tOp (qModI) (tCB (qInt) (tCons (tOp (rIx K) (tVar 0) (tC (.int 9))) (tNil))) (tC (.int 3)))) (tNil))))) (tNext))
    (tSeq (tAsg (tCall (spQ K (R__law_drawn_moves a)) [] E0 (tCons (tVar 0) (tCons (tVar 1) (tCons (tVar 2) (tNil))))) (gName 6))
    (tRet (tLst (tCons (tVar 1) (tCons (tVar 3) (tCons (tVar 5) (tCons (tVar 6) (tCons (tCall (spQ K (R__law_words a)) [] E0 (tCons (tVar 0) (tCons (tVar 2) (tNil)))) (tNil))))))))))))))
def t__law_holds (K : PySem.W.Frag) (a : Adr) (E : XK) : TS :=
  tSeq (tAsg (tCall (spD K (R__law_due a)) [] E0 (tCons (tVar 0) (tCons (tVar 1) (tCons (tVar 2) (tNil))))) (gName 4))
    (tSeq (tAsg (tCall (spD K (R__law_made a)) [] E0 (tCons (tVar 0) (tCons (tVar 1) (tCons (tVar 2) (tNil))))) (gLst K 2 (gCons (gName 5) (gCons (gName 6) (gNil)))))
    (tSeq (tIfS (tNot (tB (tCall (spD K (R__law_same a)) [] E0 (tCons (tVar 5) (tCons (tVar 4) (tNil)))))) (tRet (tC (.bl false))) (tNext))
    (tRet (tOrV (tOp (rNeU K) (tOp (rIx K) (tVar 4) (tC (.int 0))) (tC (.str "machine"))) (tCall (spD K (R__law_reads a)) [] E0 (tCons (tVar 6) (tCons (tVar 0) (tCons (tVar 1) (tCons (tVar 2) (tCons (tVar 3) (tNil)))))))))))
def t_law (K : PySem.W.Frag) (a : Adr) (E : XK) : TS :=
  tSeq (tAsg (tCall (spD K (R__law_row a)) [] E0 (tCons (tVar 0) (tCons (tC (.int 150)) (tNil)))) (gName 1))
    (tSeq (tAsg (tCall (spQ K (R__law_world a)) [] E0 (tCons (tVar 1) (tNil))) (gLst K 5 (gCons (gName 2) (gCons (gName 3) (gCons (gName 4) (gCons (gName 5) (gCons (gName 6) (gNil))))))))
    (tSeq (tIfS (tOr (tNot (tB (tCall (spD K (R__law_holds a)) [] E0 (tCons (tVar 2) (tCons (tVar 3) (tCons (tVar 5) (tCons (tVar 6) (tNil)))))))) (tNot (tB (tCall (spD K (R__law_holds a)) [] E0 (tCons (tVar 2) (tCons (tVar 4) (tCons (tVar 5) (tCons (tVar 6) (tNil))))))))) (tRet (tC (.bl false))) (tNext))
    (tSeq (tAsg (tVar 5) (gName 7))
    (tSeq (tFor (iRng1 (tCons (tOp (qModI) (tCB (qInt) (tCons (tOp (rIx K) (tVar 1) (tC (.int 17))) (tNil))) (tC (.int 3))) (tNil))) (gName 8) (tAsg (tCall (spQ K (R__law_spoilt a)) [] E0 (tCons (tVar 7) (tCons (tVar 2) (tCons (tSl (rSlU K) (tVar 1) (tPart (tCB (qInt) (tCons (tOp (rAddU K) (tC (.int 60)) (tOp (rMulU) (tC (.int 10)) (tVar 8))) (tNil)))) (tNoPart)) (tNil))))) (gName 7)))
    (tSeq (tIfS (tOr (tNot (tB (tCall (spD K (R__law_holds a)) [] E0 (tCons (tVar 2) (tCons (tVar 3) (tCons (tVar 7) (tCons (tVar 6) (tNil)))))))) (tNot (tB (tCall (spD K (R__law_holds a)) [] E0 (tCons (tVar 2) (tCons (tVar 4) (tCons (tVar 7) (tCons (tVar 6) (tNil))))))))) (tRet (tC (.bl false))) (tNext))
    (tSeq (tAsg (tCB (qMin2) (tCons (tVar 2) (tCons (tC (.int 16)) (tNil)))) (gName 9))
    (tSeq (tAsg (tLc (iList K (tVar 5)) (gName 11) (tAnd (tTest (tOp qLtI (tOp (rIx K) (tVar 11) (tC (.int 0))) (tVar 9))) (tTest (tOp qLtI (tOp (rIx K) (tVar 11) (tC (.int 2))) (tVar 9)))) (tTup (tCons (tOp (rIx K) (tVar 11) (tC (.int 0))) (tCons (tOp (rIx K) (tVar 11) (tC (.int 1))) (tCons (tOp (qSubI) (tOp (qSubI) (tVar 9) (tC (.int 1))) (tOp (rIx K) (tVar 11) (tC (.int 2)))) (tNil))))) [11]) (gName 10))
    (tSeq (tAsg (tCall (spD K (R__law_made a)) [] E0 (tCons (tVar 9) (tCons (tLc (iList K (tVar 4)) (gName 13) (tTest (tOp qLtI (tVar 13) (tVar 9))) (tVar 13) [13]) (tCons (tLc (iList K (tVar 5)) (gName 11) (tTest (tOp qLtI (tCB (qMax2) (tCons (tOp (rIx K) (tVar 11) (tC (.int 0))) (tCons (tOp (rIx K) (tVar 11) (tC (.int 2))) (tNil)))) (tVar 9))) (tVar 11) [11]) (tNil))))) (gName 12))
    (tSeq (tAsg (tCall (spD K (R__law_made a)) [] E0 (tCons (tVar 9) (tCons (tLst (tCons (tOp (qSubI) (tVar 9) (tC (.int 1))) (tNil))) (tCons (tVar 10) (tNil))))) (gName 14))
    (tSeq (tIfS (tOr (tTest (tOp (rNeU K) (tOp (rIx K) (tVar 12) (tC (.int 0))) (tLst (tCons (tC (.str "machine")) (tCons (tC (.int 0)) (tNil)))))) (tTest (tOp (rNeU K) (tOp (rIx K) (tVar 14) (tC (.int 0))) (tLst (tCons (tC (.str "machine")) (tCons (tC (.int 0)) (tNil))))))) (tRet (tC (.bl false))) (tNext))
    (tSeq (tAsg (tLc (iList K (tVar 4)) (gName 13) (tTest (tOp qLtI (tVar 13) (tVar 9))) (tVar 13) [13]) (gName 15))
    (tSeq (tFor (iRng1 (tCons (tC (.int 2)) (tNil))) (gName 8) (tSeq (tIfS (tNot (tB (tCall (spD K (R__law_reads a)) [] E0 (tCons (tOp (rIx K) (tVar 14) (tC (.int 1))) (tCons (tVar 9) (tCons (tLst (tCons (tOp (qSubI) (tVar 9) (tC (.int 1))) (tNil))) (tCons (tVar 10) (tCons (tVar 6) (tNil))))))))) (tRet (tC (.bl false))) (tNext))
      (tIfS (tNot (tB (tCall (spD K (R__law_reads a)) [] E0 (tCons (tOp (rIx K) (tVar 12) (tC (.int 1))) (tCons (tVar 9) (tCons (tVar 15) (tCons (tLc (iList K (tVar 5)) (gName 11) (tTest (tOp qLtI (tCB (qMax2) (tCons (tOp (rIx K) (tVar 11) (tC (.int 0))) (tCons (tOp (rIx K) (tVar 11) (tC (.int 2))) (tNil)))) (tVar 9))) (tVar 11) [11]) (tCons (tVar 6) (tNil))))))))) (tRet (tC (.bl false))) (tNext))))
    (tRet (tC (.bl true)))))))))))))))
end K66
set_option Elab.async false
set_option linter.all false
set_option maxRecDepth 100000
set_option maxHeartbeats 1000000
namespace K66
open PySem PySem.Spec PyProof.Rows L2 PL
local macro_rules | `(tactic| walk_at "pl_len") => `(tactic| first
  | decide
  | (with_reducible assumption)
  | (simp; done)
  | omega)
local macro_rules | `(tactic| walk_at "pl_kk") => `(tactic| first
  | (with_reducible exact kk_NoneType_bool)
  | (with_reducible exact kk_NoneType_int)
  | (with_reducible exact kk_NoneType_str)
  | (with_reducible exact kk_NoneType_list)
  | (with_reducible exact kk_NoneType_tuple)
  | (with_reducible exact kk_bool_bool)
  | (with_reducible exact kk_bool_int)
  | (with_reducible exact kk_bool_str)
  | (with_reducible exact kk_bool_list)
  | (with_reducible exact kk_bool_tuple)
  | (with_reducible exact kk_int_bool)
  | (with_reducible exact kk_int_int)
  | (with_reducible exact kk_int_str)
  | (with_reducible exact kk_int_list)
  | (with_reducible exact kk_int_tuple)
  | (with_reducible exact kk_str_bool)
  | (with_reducible exact kk_str_int)
  | (with_reducible exact kk_str_str)
  | (with_reducible exact kk_str_list)
  | (with_reducible exact kk_str_tuple)
  | (with_reducible exact kk_list_bool)
  | (with_reducible exact kk_list_int)
  | (with_reducible exact kk_list_str)
  | (with_reducible exact kk_list_list)
  | (with_reducible exact kk_list_tuple)
  | (with_reducible exact kk_tuple_bool)
  | (with_reducible exact kk_tuple_int)
  | (with_reducible exact kk_tuple_str)
  | (with_reducible exact kk_tuple_list)
  | (with_reducible exact kk_tuple_tuple))
local macro_rules | `(tactic| walk_at "pl_at") => `(tactic| first
  | (with_reducible assumption)
  | assumption
  | rfl)
local macro_rules | `(tactic| walk_at "pl_side") => `(tactic| first
  | (with_reducible assumption)
  | omega
  | decide
  | (simp only [len_one]; omega))
local macro_rules | `(tactic| walk_at "pl_op") => `(tactic| first
  | (with_reducible exact oa_int)
  | (with_reducible exact om_sub)
  | (with_reducible exact om_lt)
  | (with_reducible exact om_le)
  | (with_reducible exact om_gt)
  | (with_reducible exact om_ge)
  | (with_reducible exact oe_int)
  | (with_reducible exact on_int)
  | (with_reducible exact oe_str)
  | (with_reducible exact on_str)
  | (with_reducible exact oe_bl)
  | (with_reducible exact on_bl)
  | (with_reducible exact oi_lint)
  | (with_reducible exact oi_tint)
  | (with_reducible exact oi_tstr)
  | (with_reducible exact oi_sign)
  | (with_reducible exact oni_sign)
  | (with_reducible exact oni_lint)
  | (with_reducible exact ois_non)
  | (with_reducible exact oisn_non)
  | ((with_reducible refine' om_mod ?h0); (case h0 => walk_at "pl_side"))
  | ((with_reducible refine' om_fdv ?h0 ?h1); (case h0 => walk_at "pl_side"); (case h1 => walk_at "pl_side"))
  | ((with_reducible refine' om_mulL ?h0 ?h1); (case h0 => walk_at "pl_side"); (case h1 => walk_at "pl_side"))
  | ((with_reducible refine' om_mulR ?h0 ?h1); (case h0 => walk_at "pl_side"); (case h1 => walk_at "pl_side"))
  | ((with_reducible refine' om_pow ?h0 ?h1 ?h2); (case h0 => walk_at "pl_side"); (case h1 => walk_at "pl_side"); (case h2 => walk_at "pl_side"))
  | ((with_reducible refine' ox_int ?h0 ?h1); (case h0 => walk_at "pl_side"); (case h1 => walk_at "pl_side"))
  | ((with_reducible refine' ox_scr ?h0 ?h1); (case h0 => walk_at "pl_side"); (case h1 => walk_at "pl_side"))
  | ((with_reducible refine' ox_lst ?h0); (case h0 => walk_at "pl_at"))
  | ((with_reducible refine' ox_tup ?h0); (case h0 => walk_at "pl_at"))
  | ((with_reducible refine' ox_str ?h0 ?h1); (case h0 => walk_at "pl_side"); (case h1 => walk_at "pl_at"))
  | ((with_reducible refine' oa_str ?h0); (case h0 => walk_at "pl_side"))
  | ((with_reducible refine' om_str ?h0); (case h0 => walk_at "pl_side")))
local macro_rules | `(tactic| walk_at "pl_cb") => `(tactic| first
  | (with_reducible exact c_int)
  | (with_reducible exact c_len_lst)
  | (with_reducible exact c_len_scr)
  | (with_reducible exact c_len_tup)
  | ((with_reducible refine' c_len_str ?h0); (case h0 => walk_at "pl_side"))
  | (with_reducible exact c_intB)
  | (with_reducible exact c_min)
  | (with_reducible exact c_max)
  | (with_reducible exact c_tuple))
local macro_rules | `(tactic| walk_at "pl_cf") => `(tactic| first
  | (with_reducible exact c_list)
  | (with_reducible exact c_listT))
local macro_rules | `(tactic| walk_at "pl_eab") => `(tactic| first
  | (with_reducible exact eb_nil)
  | ((with_reducible refine' eb_cons ?h0 ?h1); (case h0 => walk_at "pl_evb"); (case h1 => walk_at "pl_eab")))
local macro_rules | `(tactic| walk_at "pl_ea") => `(tactic| first
  | (with_reducible exact ea_nil)
  | ((with_reducible refine' ea_cons ?h0 ?h1); (case h0 => walk_at "pl_ev"); (case h1 => walk_at "pl_ea")))
local macro_rules | `(tactic| walk_at "pl_evb") => `(tactic| first
  | ((with_reducible refine' evb_var ?h0); (case h0 => rfl))
  | ((with_reducible refine' EvD.b ?h0); (case h0 => walk_at "pl_ev")))
local macro_rules | `(tactic| walk_at "pl_eo") => `(tactic| first
  | (with_reducible exact eo_none)
  | ((with_reducible refine' eo_some ?h0); (case h0 => walk_at "pl_ev")))
local macro_rules | `(tactic| walk_at "pl_opf") => `(tactic| first
  | ((with_reducible refine' oa_lst ?h0); (case h0 => walk_at "pl_len"))
  | ((with_reducible refine' om_rep ?h0 ?h1 ?h2); (case h0 => walk_at "pl_side"); (case h1 => walk_at "pl_side"); (case h2 => walk_at "pl_side")))
local macro_rules | `(tactic| walk_at "pl_evf") => `(tactic| first
  | (with_reducible exact ef_dnewT)
  | (with_reducible exact ef_dnewK)
  | ((with_reducible refine' ef_lst ?h0 ?h1); (case h0 => walk_at "pl_ea"); (case h1 => walk_at "pl_len"))
  | ((with_reducible refine' ef_slice ?h0 ?h1 ?h2); (case h0 => walk_at "pl_evb"); (case h1 => walk_at "pl_eo"); (case h2 => walk_at "pl_eo"))
  | ((with_reducible refine' ef_rev ?h0); (case h0 => walk_at "pl_evb"))
  | ((with_reducible refine' ef_cb ?h0 ?h1); (case h0 => walk_at "pl_eab"); (case h1 => walk_at "pl_cf"))
  | ((with_reducible refine' ev_opF ?h0 ?h1 ?h2); (case h0 => walk_at "pl_evb"); (case h1 => walk_at "pl_evb"); (case h2 => walk_at "pl_opf")))
local macro_rules | `(tactic| walk_at "pl_ev") => `(tactic| first
  | ((with_reducible refine' ev_var ?h0); (case h0 => rfl))
  | (with_reducible exact ev_int)
  | (with_reducible exact ev_str)
  | (with_reducible exact ev_bl)
  | (with_reducible exact ev_non)
  | ((with_reducible refine' ev_op ?h0 ?h1 ?h2); (case h0 => walk_at "pl_evb"); (case h1 => walk_at "pl_evb"); (case h2 => walk_at "pl_op"))
  | ((with_reducible refine' ev_cb ?h0 ?h1); (case h0 => walk_at "pl_eab"); (case h1 => walk_at "pl_cb"))
  | ((with_reducible refine' ev_isi ?h0 ?h1 ?h2); (case h0 => walk_at "pl_evb"); (case h1 => rfl); (case h2 => walk_at "pl_kk"))
  | ((with_reducible refine' ev_tup ?h0 ?h1); (case h0 => walk_at "pl_ea"); (case h1 => walk_at "pl_len"))
  | ((with_reducible refine' ev_neg ?h0); (case h0 => walk_at "pl_ev"))
  | ((with_reducible refine' ev_not ?h0); (case h0 => walk_at "pl_ev"))
  | ((with_reducible refine' ev_chain ?h0 ?h1 (fun _ => ?h2) ?h3 (fun _ => ?h4)); (case h0 => walk_at "pl_ev"); (case h1 => walk_at "pl_ev"); (case h3 => walk_at "pl_op"); (case h2 => walk_at "pl_ev"); (case h4 => walk_at "pl_op"))
  | ((with_reducible refine' ev_dinIS ?h0 ?h1); (case h0 => walk_at "pl_ev"); (case h1 => walk_at "pl_evb"))
  | ((with_reducible refine' ev_get2IS ?h0 ?h1 ?h2); (case h0 => walk_at "pl_evb"); (case h1 => walk_at "pl_ev"); (case h2 => walk_at "pl_ev"))
  | ((with_reducible refine' ev_and ?h0 ?h1); (case h0 => walk_at "pl_ev"); (case h1 => (intro hz; (try simp only [decide_eq_true_eq, decide_eq_false_iff_not] at hz); walk_at "pl_ev")))
  | ((with_reducible refine' ev_or ?h0 ?h1); (case h0 => walk_at "pl_ev"); (case h1 => (intro hz; (try simp only [decide_eq_true_eq, decide_eq_false_iff_not] at hz); walk_at "pl_ev")))
  | ((with_reducible refine' ev_sliceS ?h0 ?h1 ?h2 ?h3); (case h3 => walk_at "pl_side"); (case h0 => walk_at "pl_ev"); (case h1 => walk_at "pl_eo"); (case h2 => walk_at "pl_eo"))
  | ((with_reducible refine' EvF.im ?h0); (case h0 => walk_at "pl_evf")))
local macro_rules | `(tactic| walk_at "pl_et") => `(tactic| first
  | ((with_reducible refine' et_test ?h0); (case h0 => walk_at "pl_ev"))
  | ((with_reducible refine' et_B ?h0); (case h0 => walk_at "pl_ev"))
  | ((with_reducible refine' et_not ?h0); (case h0 => walk_at "pl_et"))
  | ((with_reducible refine' et_and ?h0 ?h1); (case h0 => walk_at "pl_et"); (case h1 => (intro hz; (try simp only [decide_eq_true_eq, decide_eq_false_iff_not] at hz); walk_at "pl_et")))
  | ((with_reducible refine' et_or ?h0 ?h1); (case h0 => walk_at "pl_et"); (case h1 => (intro hz; (try simp only [decide_eq_true_eq, decide_eq_false_iff_not] at hz); walk_at "pl_et")))
  | ((with_reducible refine' et_tru ?h0 ?h1); (case h0 => walk_at "pl_evb"); (case h1 => rfl)))
local macro_rules | `(tactic| walk_at "pl_nx") => `(tactic| simp only [List.set_cons_zero, List.set_cons_succ, Int.reduceToNat])
local macro_rules | `(tactic| walk_at "pl_sv") => `(tactic| first
  | ((with_reducible refine' sv_seq ?_))
  | ((with_reducible refine' sv_setF ?h0 ?_); (case h0 => walk_at "pl_evf"); walk_at "pl_nx")
  | ((with_reducible refine' sv_set ?h0 ?_); (case h0 => walk_at "pl_ev"); walk_at "pl_nx")
  | ((with_reducible refine' sv_app ?h0 ?h1 ?h2 ?_); (case h0 => rfl); (case h1 => walk_at "pl_ev"); (case h2 => walk_at "pl_side"); walk_at "pl_nx")
  | ((with_reducible refine' sv_dputIS ?h0 ?h1 ?h2 ?h3 ?_); (case h0 => rfl); (case h1 => walk_at "pl_ev"); (case h2 => walk_at "pl_ev"); (case h3 => walk_at "pl_side"); walk_at "pl_nx")
  | ((with_reducible refine' sv_next ?_))
  | ((with_reducible refine' sv_ret_own ?h0 ?_); (case h0 => rfl))
  | ((with_reducible refine' sv_retF ?h0 ?_); (case h0 => walk_at "pl_evf"))
  | ((with_reducible refine' sv_ret ?h0 ?_); (case h0 => walk_at "pl_ev"))
  | ((with_reducible refine' sv_cont ?_))
  | ((with_reducible refine' sv_brk ?_)))
local macro_rules | `(tactic| walk_at "pl_if") => `(tactic| ((with_reducible refine' sv_if ?h0 ?_ ?_); (case h0 => walk_at "pl_et")))
local macro_rules | `(tactic| walk_at "pl_go") => `(tactic| (repeat (walk_at "pl_sv")))

section
variable {K : PySem.W.Frag} {E : XK} {a : Adr} {ds : List D} {o : Out}
theorem r_is_state (X : Kf K a) (h : R_is_state a ds o) : SvD K E (wr0 2 ds) (t_is_state K a E) (De.of o) := by
  obtain ⟨s, n, rfl, rfl⟩ := h
  show SvD K E [.im (.int s), .im (.int n)] _ _
  unfold t_is_state
  walk_at "pl_go"
  rfl
theorem r__law_row (X : Kf K a) (h : R__law_row a ds o) : SvD K E (wr0 7 ds) (t__law_row K a E) (De.of o) := by
  obtain ⟨ns, many, rfl, h0, h1, rfl⟩ := h
  exact rr_row h0 h1 rfl
theorem r__law_same (X : Kf K a) (h : R__law_same a ds o) : SvD K E (wr0 7 ds) (t__law_same K a E) (De.of o) := by
  obtain ⟨d, rfl, h0, h1, rfl⟩ := h
  exact rr_same h0 h1 rfl
/-! the table -/
theorem tab_snoc (ms : List Mv) (m : Mv) : tab (ms ++ [m]) = (putKs (tab ms).1 (kM m), putVs (tab ms).1 (tab ms).2 (kM m) m.2.2) := by
  unfold tab; rw [List.foldl_append]; rfl
theorem tab_len (ms : List Mv) : (tab ms).1.length ≤ ms.length := by
  suffices h : ∀ (l : List Mv) (t : List (List Key) × List Int), (l.foldl (fun t m => (putKs t.1 (kM m), putVs t.1 t.2 (kM m) m.2.2)) t).1.length ≤ t.1.length + l.length by
    have := h ms ([], [])
    simpa [tab] using this
  intro l
  induction l with
  | nil => intro t; simp
  | cons m l ih =>
    intro t
    refine Nat.le_trans (ih _) ?_
    have : (putKs t.1 (kM m)).length ≤ t.1.length + 1 := by
      unfold putKs; split <;> simp
    simp only [List.length_cons]; omega
theorem putVs_map {κ α β : Type} [DecidableEq κ] (f : α → β) (ks : List κ) (l : List α) (k : κ) (x : α) : putVs ks (l.map f) k (f x) = (putVs ks l k x).map f := by
  unfold putVs
  split
  · rw [List.zip_map_right, List.map_map, List.map_map]
    apply List.map_congr_left
    intro p _
    dsimp
    split <;> rfl
  · simp
theorem r__law_table (X : Kf K a) (h : R__law_table a ds o) : SvD K E (wr0 3 ds) (t__law_table K a E) (De.of o) := by
  obtain ⟨ms, rfl, hm, rfl⟩ := h
  show SvD K E [.im (dMs ms), .no, .no] _ _
  unfold t__law_table
  walk_at "pl_go"
  refine sv_for (it_list (ev_var (i := 0) rfl)) (fun i ρ' => ∃ s2, ρ' = [.im (dMs ms), .ow (.dt (tab (ms.take i)).1 ((tab (ms.take i)).2.map .int)), s2]) ⟨_, rfl⟩ ?_ ?_
  · rintro i _ hi ⟨s2, rfl⟩
    have hi' : i < ms.length := by simpa using hi
    refine ⟨_, tg_name, ?_⟩
    rw [getD_map hi']
    walk_at "pl_nx"
    have hl : (tab (ms.take i)).1.length < 16777216 := by
      have := tab_len (ms.take i)
      have : (ms.take i).length ≤ ms.length := by simp; omega
      omega
    walk_at "pl_sv"
    refine ⟨.im (dM ms[i]), ?_⟩
    have e : ms.take (i + 1) = ms.take i ++ [ms[i]] := by rw [List.take_succ, List.getElem?_eq_getElem hi']; rfl
    rw [e, tab_snoc, ← putVs_map D.int]
  · rintro _ ⟨s2, rfl⟩
    walk_at "pl_go"
    rw [List.length_map, List.take_length]
    rfl

/-! letters and the first bad move -/
theorem one_letter {z : Str} (h : z.cps.size = 1) : ∃ c, z = ⟨#[c]⟩ := by
  obtain ⟨cps⟩ := z
  refine ⟨cps[0]'(by have : cps.size = 1 := h; omega), ?_⟩
  congr 1
  apply Array.ext
  · simpa using h
  · intro i h1 h2
    have : i = 0 := by have : cps.size = 1 := h; omega
    subst this; rfl
theorem et_letter {ρ : List Sl} {j : Nat} {z : Str} {tt : TT} {b : Bool} (e : ρ[j]? = some (.im (.str z))) (hz : z.length ≤ 1000) (h : EvT K ρ tt b) :
    EvT K ρ (tOr (tTest (tOp (rNeU K) (tCB (qLen K) (tCons (tVar j) tNil)) (tC (.int 1)))) (tOr (tTest (tOp (rNInU K) (tVar j) (tC (.str "abcdefghijklmnopqrstuvwxyz")))) tt)) (!okL z || b) := by
  have h1 : EvT K ρ (tTest (tOp (rNeU K) (tCB (qLen K) (tCons (tVar j) tNil)) (tC (.int 1)))) (decide ((z.length : Int) ≠ 1)) := et_test (ev_op (EvD.b (ev_cb (eb_cons (EvD.b (ev_var e)) eb_nil) (c_len_str (by omega)))) (EvD.b ev_int) on_int)
  by_cases hs : z.cps.size = 1
  · obtain ⟨c, rfl⟩ := one_letter hs
    have h2 : EvT K ρ (tTest (tOp (rNInU K) (tVar j) (tC (.str "abcdefghijklmnopqrstuvwxyz")))) (!decide (c ∈ abc.cps.toList)) := et_test (ev_op (EvD.b (ev_var e)) (EvD.b ev_str) oni_sign)
    have := et_or h1 fun _ => et_or h2 fun _ => h
    have e2 : (decide (((Str.mk #[c]).length : Int) ≠ 1) || (!decide (c ∈ abc.cps.toList) || b)) = (!okL ⟨#[c]⟩ || b) := by
      have : ((Str.mk #[c]).length : Int) = 1 := rfl
      unfold okL
      simp [this]
    rw [e2] at this
    exact this
  · have e1 : (decide ((z.length : Int) ≠ 1)) = true := by
      simp only [decide_eq_true_eq]
      intro q
      exact hs (by have : z.length = z.cps.size := rfl; omega)
    rw [e1] at h1
    have e2 : (!okL z || b) = (true || false) := by unfold okL; simp [hs]
    rw [e2]
    exact et_or h1 fun q => absurd q (by decide)
theorem valD_isSome {ks : List (List Key)} : ∀ {l : List D} {k : List Key}, l.length = ks.length → (valD ks l k).isSome = memB k ks := by
  induction ks with
  | nil => intro l k h; simp [valD, memB]
  | cons a ks ih =>
    intro l k h
    cases l with
    | nil => simp at h
    | cons x l =>
      rw [valD_cons]
      by_cases e : a = k
      · subst e; simp [memB]
      · rw [if_neg e, ih (by simpa using h)]
        have : ¬ k = a := fun z => e z.symm
        simp [memB, this]
theorem goodAt_iff {n : Int} {ms : List Mv} {i : Nat} (hi : i < ms.length) : goodAt n ms i = (okM n ms[i] && !memB (kM ms[i]) ((ms.take i).map kM)) := by
  unfold goodAt
  rw [List.getElem?_eq_getElem hi]
theorem firstBad_some {n : Int} {ms : List Mv} {i : Nat} (hi : i < ms.length) (h : ∀ j < i, goodAt n ms j = true) (hb : goodAt n ms i = false) : firstBad n ms = some i := by
  unfold firstBad
  rw [List.find?_range_eq_some]
  refine ⟨by simp [hb], by simpa using hi, fun j hj => by simp [h j hj]⟩
theorem firstBad_none {n : Int} {ms : List Mv} (h : ∀ j < ms.length, goodAt n ms j = true) : firstBad n ms = none := by
  unfold firstBad
  rw [List.find?_range_eq_none]
  exact fun i hi => by simp [h i hi]
theorem take_snoc {α : Type} {l : List α} {i : Nat} (hi : i < l.length) : l.take (i + 1) = l.take i ++ [l[i]] := by rw [List.take_succ, List.getElem?_eq_getElem hi]; rfl
theorem r__law_first_bad (X : Kf K a) (h : R__law_first_bad a ds o) : SvD K E (wr0 7 ds) (t__law_first_bad K a E) (De.of o) := by
  obtain ⟨n, ms, rfl, hf, rfl⟩ := h
  show SvD K E [.im (.int n), .im (dMs ms), .no, .no, .no, .no, .no] _ _
  unfold t__law_first_bad
  walk_at "pl_go"
  have hlen := hf.m
  refine sv_for (it_range (n := (ms.map dM).length) (ev_cb (eb_cons (EvD.b (ev_var (i := 1) rfl)) eb_nil) c_len_lst) (by simp; omega) (by omega)) (fun i ρ' => (∀ j < i, goodAt n ms j = true) ∧ ∃ (l : List D) (s3 s4 s5 s6 : Sl), l.length = i ∧ ρ' = [.im (.int n), .im (dMs ms), .ow (.dt ((ms.take i).map kM) l), s3, s4, s5, s6]) ⟨fun j hj => by omega, [], _, _, _, _, rfl, rfl⟩ ?_ ?_
  · rintro i _ hi ⟨hg, l, s3, s4, s5, s6, hl, rfl⟩
    have hi' : i < ms.length := by simpa using hi
    refine ⟨_, tg_name, ?_⟩
    walk_at "pl_nx"
    walk_at "pl_sv"
    refine sv_asg (EvD.s (ev_op (EvD.b (ev_var (i := 1) rfl)) (EvD.b (ev_var (i := 3) rfl)) (ox_lst (atI_mapN hi')))) (tg_tup (tgs_cons tg_name (tgs_cons tg_name (tgs_cons tg_name tgs_nil)))) ?_
    walk_at "pl_nx"
    walk_at "pl_sv"
    have hkl : l.length = ((ms.take i).map kM).length := by rw [hl, List.length_map, List.length_take]; omega
    have hin : EvT K [.im (.int n), .im (dMs ms), .ow (.dt ((ms.take i).map kM) l), .im (.int i), .im (.int ms[i].1), .im (.str ms[i].2.1), .im (.int ms[i].2.2)] (tB (tDIn (tTup (tCons (tVar 4) (tCons (tVar 5) tNil))) (tVar 2))) (memB (kM ms[i]) ((ms.take i).map kM)) := by
      rw [← valD_isSome hkl]
      walk_at "pl_et"
    have fin : ∀ b : Bool, b = true → goodAt n ms i = !b → (De.of (.ret (.im (.int (match firstBad n ms with | some i => (i : Int) | none => -1))))).rt (.im (.int (i : Int))) := fun b hb hg2 => by
      rw [firstBad_some hi' hg (by rw [hg2, hb]; rfl)]; rfl
    refine sv_mid (fun ρ' => (okSt n ms[i].1 && okSt n ms[i].2.2) = true ∧ ρ' = [.im (.int n), .im (dMs ms), .ow (.dt ((ms.take i).map kM) l), .im (.int i), .im (.int ms[i].1), .im (.str ms[i].2.1), .im (.int ms[i].2.2)]) ?_ ?_
    · walk_at "pl_if"
      · intro hb
        walk_at "pl_go"
        refine fin true rfl ?_
        rw [goodAt_iff hi']
        have : (okSt n ms[i].1 && okSt n ms[i].2.2) = false := by
          rw [← Bool.not_eq_true', Bool.not_and]; exact hb
        unfold okM; rw [this]; rfl
      · intro hb
        walk_at "pl_go"
        refine ⟨?_, rfl⟩
        rw [← Bool.not_eq_false', Bool.not_and]; exact hb
    rintro _ ⟨hok, rfl⟩
    dsimp only
    walk_at "pl_sv"
    refine sv_mid (fun ρ' => goodAt n ms i = true ∧ ρ' = [.im (.int n), .im (dMs ms), .ow (.dt ((ms.take i).map kM) l), .im (.int i), .im (.int ms[i].1), .im (.str ms[i].2.1), .im (.int ms[i].2.2)]) ?_ ?_
    · refine sv_if (et_letter rfl (by have := (hf.l _ (List.getElem_mem hi')).1; omega) hin) (fun hb => ?_) fun hb => ?_
      · walk_at "pl_go"
        refine fin _ hb ?_
        rw [goodAt_iff hi']
        unfold okM; rw [hok]; simp
      · walk_at "pl_go"
        refine ⟨?_, rfl⟩
        rw [goodAt_iff hi']
        unfold okM; rw [hok]
        simpa using hb
    rintro _ ⟨hgood, rfl⟩
    dsimp only
    have hnk : kM ms[i] ∉ (ms.take i).map kM := by
      rw [goodAt_iff hi', Bool.and_eq_true, Bool.not_eq_true', ← Bool.not_eq_true] at hgood
      exact fun z => hgood.2 (memB_iff.mpr z)
    have hks : ((ms.take i).map kM).length < 16777216 := by rw [← hkl, hl]; omega
    walk_at "pl_sv"
    refine ⟨fun j hj => ?_, putVs ((ms.take i).map kM) l (kM ms[i]) (.bl true), .im (.int i), .im (.int ms[i].1), .im (.str ms[i].2.1), .im (.int ms[i].2.2), ?_, ?_⟩
    · rcases Nat.lt_or_ge j i with h | h
      · exact hg j h
      · have : j = i := by omega
        subst this; exact hgood
    · unfold putVs; rw [if_neg hnk]; simp [hl]
    · unfold putKs; rw [if_neg hnk, take_snoc hi', List.map_append]; rfl
  · rintro _ ⟨hg, l, s3, s4, s5, s6, hl, rfl⟩
    have : firstBad n ms = none := firstBad_none (by simpa using hg)
    rw [this]
    walk_at "pl_go"
    rfl
end
end K66

set_option Elab.async false
set_option linter.all false
set_option maxRecDepth 100000
set_option maxHeartbeats 1000000
namespace K66
open PySem PySem.Spec PyProof.Rows L2 PL
local macro_rules | `(tactic| walk_at "pl_len") => `(tactic| first
  | decide
  | (with_reducible assumption)
  | (simp; done)
  | omega)
local macro_rules | `(tactic| walk_at "pl_kk") => `(tactic| first
  | (with_reducible exact kk_NoneType_bool)
  | (with_reducible exact kk_NoneType_int)
  | (with_reducible exact kk_NoneType_str)
  | (with_reducible exact kk_NoneType_list)
  | (with_reducible exact kk_NoneType_tuple)
  | (with_reducible exact kk_bool_bool)
  | (with_reducible exact kk_bool_int)
  | (with_reducible exact kk_bool_str)
  | (with_reducible exact kk_bool_list)
  | (with_reducible exact kk_bool_tuple)
  | (with_reducible exact kk_int_bool)
  | (with_reducible exact kk_int_int)
  | (with_reducible exact kk_int_str)
  | (with_reducible exact kk_int_list)
  | (with_reducible exact kk_int_tuple)
  | (with_reducible exact kk_str_bool)
  | (with_reducible exact kk_str_int)
  | (with_reducible exact kk_str_str)
  | (with_reducible exact kk_str_list)
  | (with_reducible exact kk_str_tuple)
  | (with_reducible exact kk_list_bool)
  | (with_reducible exact kk_list_int)
  | (with_reducible exact kk_list_str)
  | (with_reducible exact kk_list_list)
  | (with_reducible exact kk_list_tuple)
  | (with_reducible exact kk_tuple_bool)
  | (with_reducible exact kk_tuple_int)
  | (with_reducible exact kk_tuple_str)
  | (with_reducible exact kk_tuple_list)
  | (with_reducible exact kk_tuple_tuple))
local macro_rules | `(tactic| walk_at "pl_at") => `(tactic| first
  | (with_reducible assumption)
  | assumption
  | rfl)
local macro_rules | `(tactic| walk_at "pl_side") => `(tactic| first
  | (with_reducible assumption)
  | omega
  | decide
  | (simp only [len_one]; omega))
local macro_rules | `(tactic| walk_at "pl_op") => `(tactic| first
  | (with_reducible exact oa_int)
  | (with_reducible exact om_sub)
  | (with_reducible exact om_lt)
  | (with_reducible exact om_le)
  | (with_reducible exact om_gt)
  | (with_reducible exact om_ge)
  | (with_reducible exact oe_int)
  | (with_reducible exact on_int)
  | (with_reducible exact oe_str)
  | (with_reducible exact on_str)
  | (with_reducible exact oe_bl)
  | (with_reducible exact on_bl)
  | (with_reducible exact oi_lint)
  | (with_reducible exact oi_tint)
  | (with_reducible exact oi_tstr)
  | (with_reducible exact oi_sign)
  | (with_reducible exact oni_sign)
  | (with_reducible exact oni_lint)
  | (with_reducible exact ois_non)
  | (with_reducible exact oisn_non)
  | ((with_reducible refine' om_mod ?h0); (case h0 => walk_at "pl_side"))
  | ((with_reducible refine' om_fdv ?h0 ?h1); (case h0 => walk_at "pl_side"); (case h1 => walk_at "pl_side"))
  | ((with_reducible refine' om_mulL ?h0 ?h1); (case h0 => walk_at "pl_side"); (case h1 => walk_at "pl_side"))
  | ((with_reducible refine' om_mulR ?h0 ?h1); (case h0 => walk_at "pl_side"); (case h1 => walk_at "pl_side"))
  | ((with_reducible refine' om_pow ?h0 ?h1 ?h2); (case h0 => walk_at "pl_side"); (case h1 => walk_at "pl_side"); (case h2 => walk_at "pl_side"))
  | ((with_reducible refine' ox_int ?h0 ?h1); (case h0 => walk_at "pl_side"); (case h1 => walk_at "pl_side"))
  | ((with_reducible refine' ox_scr ?h0 ?h1); (case h0 => walk_at "pl_side"); (case h1 => walk_at "pl_side"))
  | ((with_reducible refine' ox_lst ?h0); (case h0 => walk_at "pl_at"))
  | ((with_reducible refine' ox_tup ?h0); (case h0 => walk_at "pl_at"))
  | ((with_reducible refine' ox_str ?h0 ?h1); (case h0 => walk_at "pl_side"); (case h1 => walk_at "pl_at"))
  | ((with_reducible refine' oa_str ?h0); (case h0 => walk_at "pl_side"))
  | ((with_reducible refine' om_str ?h0); (case h0 => walk_at "pl_side")))
local macro_rules | `(tactic| walk_at "pl_cb") => `(tactic| first
  | (with_reducible exact c_int)
  | (with_reducible exact c_len_lst)
  | (with_reducible exact c_len_scr)
  | (with_reducible exact c_len_tup)
  | ((with_reducible refine' c_len_str ?h0); (case h0 => walk_at "pl_side"))
  | (with_reducible exact c_intB)
  | (with_reducible exact c_min)
  | (with_reducible exact c_max)
  | (with_reducible exact c_tuple))
local macro_rules | `(tactic| walk_at "pl_cf") => `(tactic| first
  | (with_reducible exact c_list)
  | (with_reducible exact c_listT))
local macro_rules | `(tactic| walk_at "pl_eab") => `(tactic| first
  | (with_reducible exact eb_nil)
  | ((with_reducible refine' eb_cons ?h0 ?h1); (case h0 => walk_at "pl_evb"); (case h1 => walk_at "pl_eab")))
local macro_rules | `(tactic| walk_at "pl_ea") => `(tactic| first
  | (with_reducible exact ea_nil)
  | ((with_reducible refine' ea_cons ?h0 ?h1); (case h0 => walk_at "pl_ev"); (case h1 => walk_at "pl_ea")))
local macro_rules | `(tactic| walk_at "pl_evb") => `(tactic| first
  | ((with_reducible refine' evb_var ?h0); (case h0 => rfl))
  | ((with_reducible refine' EvD.b ?h0); (case h0 => walk_at "pl_ev")))
local macro_rules | `(tactic| walk_at "pl_eo") => `(tactic| first
  | (with_reducible exact eo_none)
  | ((with_reducible refine' eo_some ?h0); (case h0 => walk_at "pl_ev")))
local macro_rules | `(tactic| walk_at "pl_opf") => `(tactic| first
  | ((with_reducible refine' oa_lst ?h0); (case h0 => walk_at "pl_len"))
  | ((with_reducible refine' om_rep ?h0 ?h1 ?h2); (case h0 => walk_at "pl_side"); (case h1 => walk_at "pl_side"); (case h2 => walk_at "pl_side")))
local macro_rules | `(tactic| walk_at "pl_evf") => `(tactic| first
  | (with_reducible exact ef_dnewT)
  | (with_reducible exact ef_dnewK)
  | ((with_reducible refine' ef_lst ?h0 ?h1); (case h0 => walk_at "pl_ea"); (case h1 => walk_at "pl_len"))
  | ((with_reducible refine' ef_slice ?h0 ?h1 ?h2); (case h0 => walk_at "pl_evb"); (case h1 => walk_at "pl_eo"); (case h2 => walk_at "pl_eo"))
  | ((with_reducible refine' ef_rev ?h0); (case h0 => walk_at "pl_evb"))
  | ((with_reducible refine' ef_cb ?h0 ?h1); (case h0 => walk_at "pl_eab"); (case h1 => walk_at "pl_cf"))
  | ((with_reducible refine' ev_opF ?h0 ?h1 ?h2); (case h0 => walk_at "pl_evb"); (case h1 => walk_at "pl_evb"); (case h2 => walk_at "pl_opf")))
local macro_rules | `(tactic| walk_at "pl_ev") => `(tactic| first
  | ((with_reducible refine' ev_var ?h0); (case h0 => rfl))
  | (with_reducible exact ev_int)
  | (with_reducible exact ev_str)
  | (with_reducible exact ev_bl)
  | (with_reducible exact ev_non)
  | ((with_reducible refine' ev_op ?h0 ?h1 ?h2); (case h0 => walk_at "pl_evb"); (case h1 => walk_at "pl_evb"); (case h2 => walk_at "pl_op"))
  | ((with_reducible refine' ev_cb ?h0 ?h1); (case h0 => walk_at "pl_eab"); (case h1 => walk_at "pl_cb"))
  | ((with_reducible refine' ev_isi ?h0 ?h1 ?h2); (case h0 => walk_at "pl_evb"); (case h1 => rfl); (case h2 => walk_at "pl_kk"))
  | ((with_reducible refine' ev_tup ?h0 ?h1); (case h0 => walk_at "pl_ea"); (case h1 => walk_at "pl_len"))
  | ((with_reducible refine' ev_neg ?h0); (case h0 => walk_at "pl_ev"))
  | ((with_reducible refine' ev_not ?h0); (case h0 => walk_at "pl_ev"))
  | ((with_reducible refine' ev_chain ?h0 ?h1 (fun _ => ?h2) ?h3 (fun _ => ?h4)); (case h0 => walk_at "pl_ev"); (case h1 => walk_at "pl_ev"); (case h3 => walk_at "pl_op"); (case h2 => walk_at "pl_ev"); (case h4 => walk_at "pl_op"))
  | ((with_reducible refine' ev_dinIS ?h0 ?h1); (case h0 => walk_at "pl_ev"); (case h1 => walk_at "pl_evb"))
  | ((with_reducible refine' ev_get2IS ?h0 ?h1 ?h2); (case h0 => walk_at "pl_evb"); (case h1 => walk_at "pl_ev"); (case h2 => walk_at "pl_ev"))
  | ((with_reducible refine' ev_and ?h0 ?h1); (case h0 => walk_at "pl_ev"); (case h1 => (intro hz; (try simp only [decide_eq_true_eq, decide_eq_false_iff_not] at hz); walk_at "pl_ev")))
  | ((with_reducible refine' ev_or ?h0 ?h1); (case h0 => walk_at "pl_ev"); (case h1 => (intro hz; (try simp only [decide_eq_true_eq, decide_eq_false_iff_not] at hz); walk_at "pl_ev")))
  | ((with_reducible refine' ev_sliceS ?h0 ?h1 ?h2 ?h3); (case h3 => walk_at "pl_side"); (case h0 => walk_at "pl_ev"); (case h1 => walk_at "pl_eo"); (case h2 => walk_at "pl_eo"))
  | ((with_reducible refine' EvF.im ?h0); (case h0 => walk_at "pl_evf")))
local macro_rules | `(tactic| walk_at "pl_et") => `(tactic| first
  | ((with_reducible refine' et_test ?h0); (case h0 => walk_at "pl_ev"))
  | ((with_reducible refine' et_B ?h0); (case h0 => walk_at "pl_ev"))
  | ((with_reducible refine' et_not ?h0); (case h0 => walk_at "pl_et"))
  | ((with_reducible refine' et_and ?h0 ?h1); (case h0 => walk_at "pl_et"); (case h1 => (intro hz; (try simp only [decide_eq_true_eq, decide_eq_false_iff_not] at hz); walk_at "pl_et")))
  | ((with_reducible refine' et_or ?h0 ?h1); (case h0 => walk_at "pl_et"); (case h1 => (intro hz; (try simp only [decide_eq_true_eq, decide_eq_false_iff_not] at hz); walk_at "pl_et")))
  | ((with_reducible refine' et_tru ?h0 ?h1); (case h0 => walk_at "pl_evb"); (case h1 => rfl)))
local macro_rules | `(tactic| walk_at "pl_nx") => `(tactic| simp only [List.set_cons_zero, List.set_cons_succ, Int.reduceToNat])
local macro_rules | `(tactic| walk_at "pl_sv") => `(tactic| first
  | ((with_reducible refine' sv_seq ?_))
  | ((with_reducible refine' sv_setF ?h0 ?_); (case h0 => walk_at "pl_evf"); walk_at "pl_nx")
  | ((with_reducible refine' sv_set ?h0 ?_); (case h0 => walk_at "pl_ev"); walk_at "pl_nx")
  | ((with_reducible refine' sv_app ?h0 ?h1 ?h2 ?_); (case h0 => rfl); (case h1 => walk_at "pl_ev"); (case h2 => walk_at "pl_side"); walk_at "pl_nx")
  | ((with_reducible refine' sv_dputIS ?h0 ?h1 ?h2 ?h3 ?_); (case h0 => rfl); (case h1 => walk_at "pl_ev"); (case h2 => walk_at "pl_ev"); (case h3 => walk_at "pl_side"); walk_at "pl_nx")
  | ((with_reducible refine' sv_next ?_))
  | ((with_reducible refine' sv_ret_own ?h0 ?_); (case h0 => rfl))
  | ((with_reducible refine' sv_retF ?h0 ?_); (case h0 => walk_at "pl_evf"))
  | ((with_reducible refine' sv_ret ?h0 ?_); (case h0 => walk_at "pl_ev"))
  | ((with_reducible refine' sv_cont ?_))
  | ((with_reducible refine' sv_brk ?_)))
local macro_rules | `(tactic| walk_at "pl_if") => `(tactic| ((with_reducible refine' sv_if ?h0 ?_ ?_); (case h0 => walk_at "pl_et")))
local macro_rules | `(tactic| walk_at "pl_go") => `(tactic| (repeat (walk_at "pl_sv")))

section
variable {K : PySem.W.Frag} {E : XK} {a : Adr} {ds : List D} {o : Out}
theorem good_int {n : Nat} {l : List Int} : good (n + 1) (dI l) := fun d hd => by
  obtain ⟨x, _, rfl⟩ := List.mem_map.mp hd
  cases n <;> trivial
theorem filter_ne_nil {l : List Int} {n : Int} : (!((l.filter fun s => !okSt n s).map D.int).isEmpty) = !l.all (okSt n) := by
  induction l with
  | nil => rfl
  | cons x l ih =>
    rw [List.filter_cons, List.all_cons]
    cases okSt n x <;> simp_all
theorem r__law_due (X : Kf K a) (h : R__law_due a ds o) : SvD K E (wr0 5 ds) (t__law_due K a E) (De.of o) := by
  obtain ⟨n, acc, ms, rfl, hf, rfl⟩ := h
  show SvD K E [.im (.int n), .im (dI acc), .im (dMs ms), .no, .no] _ _
  unfold t__law_due
  walk_at "pl_sv"
  refine sv_mid (fun ρ' => ¬ 16 < n ∧ ρ' = [.im (.int n), .im (dI acc), .im (dMs ms), .no, .no]) ?_ ?_
  · walk_at "pl_if"
    · intro hb
      simp only [decide_eq_true_eq] at hb
      walk_at "pl_go"
      show _ = _
      unfold moOf; rw [if_pos hb]; rfl
    · intro hb
      simp only [decide_eq_false_iff_not] at hb
      walk_at "pl_go"
      exact ⟨hb, rfl⟩
  rintro _ ⟨h16, rfl⟩
  dsimp only
  walk_at "pl_sv"
  have hlc : EvF K [.im (.int n), .im (dI acc), .im (dMs ms), .no, .no] (tLc (iList K (tVar 1)) (gName 3) (tNot (tTest (tChain qLeI qLtI (tC (.int 0)) (tVar 3) (tVar 0)))) (tVar 3) [3]) (.lst ((acc.filter fun s => !okSt n s).map .int)) :=
    ef_lcL (F := D.int) (fun s => !okSt n s) D.int (ev_var rfl) (by have := hf.a; omega) fun s _ => ⟨by walk_at "pl_nx"; change EvT K _ _ (!(decide (0 ≤ s) && decide (s < n))); walk_at "pl_et", fun _ => by walk_at "pl_nx"; walk_at "pl_ev"⟩
  refine sv_mid (fun ρ' => acc.all (okSt n) = true ∧ ρ' = [.im (.int n), .im (dI acc), .im (dMs ms), .no, .no]) ?_ ?_
  · refine sv_if (et_test (ev_op (EvD.b (EvF.im hlc)) (EvD.b (EvF.im (ef_lst ea_nil))) (on_nil good_int))) (fun hb => ?_) fun hb => ?_
    · rw [filter_ne_nil] at hb
      walk_at "pl_go"
      show _ = _
      unfold moOf; rw [if_neg h16, if_neg (by simpa using hb)]; rfl
    · rw [filter_ne_nil] at hb
      walk_at "pl_go"
      exact ⟨by simpa using hb, rfl⟩
  rintro _ ⟨hacc, rfl⟩
  dsimp only
  walk_at "pl_sv"
  have hmo : moOf n acc ms = match firstBad n ms with | some i => .bad i | none => .ok := by unfold moOf; rw [if_neg h16, if_pos hacc] <;> rfl
  refine sv_set (ev_call (ea_cons (ev_var rfl) (ea_cons (ev_var rfl) ea_nil)) ⟨n, ms, rfl, ⟨hf.n1, hf.n2, by simp, hf.m, hf.l⟩, rfl⟩) ?_
  walk_at "pl_nx"
  rw [hmo]
  cases firstBad n ms with
  | none =>
    dsimp only
    repeat' (first | walk_at "pl_if" | walk_at "pl_sv" | ((refine' fun (hb : @Eq Bool _ _) => ?_); first | (exfalso; revert hb; simp; done) | skip))
    rfl
  | some i =>
    dsimp only
    repeat' (first | walk_at "pl_if" | walk_at "pl_sv" | ((refine' fun (hb : @Eq Bool _ _) => ?_); first | (exfalso; revert hb; simp; done) | skip))
    rfl
/-! the machine's reading -/
theorem valD_int {ks : List (List Key)} : ∀ {l : List Int} {k : List Key}, ∃ x, (valD ks (l.map .int) k).getD (.int (-1)) = .int x ∧ x = (match valD ks (l.map .int) k with | some (.int a) => a | _ => -1) := by
  induction ks with
  | nil => intro l k; exact ⟨-1, by simp [valD], by simp [valD]⟩
  | cons q ks ih =>
    intro l k
    cases l with
    | nil => exact ⟨-1, by simp [valD], by simp [valD]⟩
    | cons x l =>
      rw [List.map_cons, valD_cons]
      by_cases e : q = k
      · rw [if_pos e]; exact ⟨x, rfl, rfl⟩
      · rw [if_neg e]; exact ih
theorem look_eq {t : List (List Key) × List Int} {s : Int} {z : Str} : (valD t.1 (t.2.map .int) [.inl s, .inr z]).getD (.int (-1)) = .int (look t s z) := by
  obtain ⟨x, h1, h2⟩ := valD_int (ks := t.1) (l := t.2) (k := [.inl s, .inr z])
  rw [h1, h2]; rfl
theorem run_snoc {t : List (List Key) × List Int} {s : Int} {l : List Nat} {c : Nat} : (l ++ [c]).foldl (fun h c => look t h ⟨#[c]⟩) s = look t (l.foldl (fun h c => look t h ⟨#[c]⟩) s) ⟨#[c]⟩ := by
  rw [List.foldl_append]; rfl
theorem r_Machine_state_after (X : Kf K a) (h : R_Machine_state_after a ds o) : SvD K E (wr0 5 ds) (t_Machine_state_after K a E) (De.of o) := by
  obtain ⟨n, acc, ms, z, s, rfl, rfl⟩ := h
  show SvD K E [.im (machD a n acc ms), .im (.str z), .im (.int s), .no, .no] _ _
  unfold t_Machine_state_after
  walk_at "pl_go"
  refine sv_for (it_str (s := z) (ev_var (i := 1) rfl)) (fun i ρ' => ∃ s4, ρ' = [.im (machD a n acc ms), .im (.str z), .im (.int s), .im (.int ((z.cps.toList.take i).foldl (fun h c => look (tab ms) h ⟨#[c]⟩) s)), s4]) ⟨_, rfl⟩ ?_ ?_
  · rintro i _ hi ⟨s4, rfl⟩
    refine ⟨_, tg_name, ?_⟩
    walk_at "pl_nx"
    have hfld : ∀ {ρ' : List Sl}, ρ'[0]? = some (.im (machD a n acc ms)) → EvD K ρ' (tFld K (tVar 0) "_after") (.dt (tab ms).1 ((tab ms).2.map .int)) := fun e => ev_fld 3 X.cM X.n4 (EvD.b (ev_var e)) rfl
    have hi' : i < z.cps.toList.length := by simpa using hi
    have e : z.cps.toList.take (i + 1) = z.cps.toList.take i ++ [z.cps.toList[i]] := take_snoc hi'
    have e2 : z.cps.getD i 0 = z.cps.toList[i] := by simp [Array.getD, hi]
    refine sv_set (d := .int (look (tab ms) ((z.cps.toList.take i).foldl (fun h c => look (tab ms) h ⟨#[c]⟩) s) ⟨#[z.cps.getD i 0]⟩)) ?_ ?_
    · rw [← look_eq]
      refine ev_get2IS (EvD.b (hfld rfl)) ?_ ?_
      · walk_at "pl_ev"
      · walk_at "pl_ev"
    · refine ⟨.im (.str ⟨#[z.cps.getD i 0]⟩), ?_⟩
      walk_at "pl_nx"
      rw [e, run_snoc, e2]
  · rintro _ ⟨s4, rfl⟩
    walk_at "pl_go"
    have : z.cps.size = z.cps.toList.length := by simp
    rw [this, List.take_length]; rfl
theorem r_Machine_callm (X : Kf K a) (h : R_Machine_callm a ds o) : SvD K E (wr0 2 ds) (t_Machine_callm K a E) (De.of o) := by
  obtain ⟨n, acc, ms, z, rfl, rfl⟩ := h
  show SvD K E [.im (machD a n acc ms), .im (.str z)] _ _
  unfold t_Machine_callm
  refine sv_ret (ev_op (EvD.b (ev_meth (ds := [.str z]) (dds := [.int 0]) (ev_var rfl) (ea_cons (ev_var rfl) ea_nil) ⟨n, acc, ms, z, 0, rfl, rfl⟩ (def_int def0))) (EvD.b (ev_fld 1 X.cM X.n2 (EvD.b (ev_var rfl)) rfl)) oi_tint) ?_
  rfl
end
end K66

set_option Elab.async false
set_option linter.all false
set_option maxRecDepth 100000
set_option maxHeartbeats 1000000
namespace K66
open PySem PySem.Spec PyProof.Rows L2 PL
local macro_rules | `(tactic| walk_at "pl_len") => `(tactic| first
  | decide
  | (with_reducible assumption)
  | (simp; done)
  | omega)
local macro_rules | `(tactic| walk_at "pl_kk") => `(tactic| first
  | (with_reducible exact kk_NoneType_bool)
  | (with_reducible exact kk_NoneType_int)
  | (with_reducible exact kk_NoneType_str)
  | (with_reducible exact kk_NoneType_list)
  | (with_reducible exact kk_NoneType_tuple)
  | (with_reducible exact kk_bool_bool)
  | (with_reducible exact kk_bool_int)
  | (with_reducible exact kk_bool_str)
  | (with_reducible exact kk_bool_list)
  | (with_reducible exact kk_bool_tuple)
  | (with_reducible exact kk_int_bool)
  | (with_reducible exact kk_int_int)
  | (with_reducible exact kk_int_str)
  | (with_reducible exact kk_int_list)
  | (with_reducible exact kk_int_tuple)
  | (with_reducible exact kk_str_bool)
  | (with_reducible exact kk_str_int)
  | (with_reducible exact kk_str_str)
  | (with_reducible exact kk_str_list)
  | (with_reducible exact kk_str_tuple)
  | (with_reducible exact kk_list_bool)
  | (with_reducible exact kk_list_int)
  | (with_reducible exact kk_list_str)
  | (with_reducible exact kk_list_list)
  | (with_reducible exact kk_list_tuple)
  | (with_reducible exact kk_tuple_bool)
  | (with_reducible exact kk_tuple_int)
  | (with_reducible exact kk_tuple_str)
  | (with_reducible exact kk_tuple_list)
  | (with_reducible exact kk_tuple_tuple))
local macro_rules | `(tactic| walk_at "pl_at") => `(tactic| first
  | (with_reducible assumption)
  | assumption
  | rfl)
local macro_rules | `(tactic| walk_at "pl_side") => `(tactic| first
  | (with_reducible assumption)
  | omega
  | decide
  | (simp only [len_one]; omega))
local macro_rules | `(tactic| walk_at "pl_op") => `(tactic| first
  | (with_reducible exact oa_int)
  | (with_reducible exact om_sub)
  | (with_reducible exact om_lt)
  | (with_reducible exact om_le)
  | (with_reducible exact om_gt)
  | (with_reducible exact om_ge)
  | (with_reducible exact oe_int)
  | (with_reducible exact on_int)
  | (with_reducible exact oe_str)
  | (with_reducible exact on_str)
  | (with_reducible exact oe_bl)
  | (with_reducible exact on_bl)
  | (with_reducible exact oi_lint)
  | (with_reducible exact oi_tint)
  | (with_reducible exact oi_tstr)
  | (with_reducible exact oi_sign)
  | (with_reducible exact oni_sign)
  | (with_reducible exact oni_lint)
  | (with_reducible exact ois_non)
  | (with_reducible exact oisn_non)
  | ((with_reducible refine' om_mod ?h0); (case h0 => walk_at "pl_side"))
  | ((with_reducible refine' om_fdv ?h0 ?h1); (case h0 => walk_at "pl_side"); (case h1 => walk_at "pl_side"))
  | ((with_reducible refine' om_mulL ?h0 ?h1); (case h0 => walk_at "pl_side"); (case h1 => walk_at "pl_side"))
  | ((with_reducible refine' om_mulR ?h0 ?h1); (case h0 => walk_at "pl_side"); (case h1 => walk_at "pl_side"))
  | ((with_reducible refine' om_pow ?h0 ?h1 ?h2); (case h0 => walk_at "pl_side"); (case h1 => walk_at "pl_side"); (case h2 => walk_at "pl_side"))
  | ((with_reducible refine' ox_int ?h0 ?h1); (case h0 => walk_at "pl_side"); (case h1 => walk_at "pl_side"))
  | ((with_reducible refine' ox_scr ?h0 ?h1); (case h0 => walk_at "pl_side"); (case h1 => walk_at "pl_side"))
  | ((with_reducible refine' ox_lst ?h0); (case h0 => walk_at "pl_at"))
  | ((with_reducible refine' ox_tup ?h0); (case h0 => walk_at "pl_at"))
  | ((with_reducible refine' ox_str ?h0 ?h1); (case h0 => walk_at "pl_side"); (case h1 => walk_at "pl_at"))
  | ((with_reducible refine' oa_str ?h0); (case h0 => walk_at "pl_side"))
  | ((with_reducible refine' om_str ?h0); (case h0 => walk_at "pl_side")))
local macro_rules | `(tactic| walk_at "pl_cb") => `(tactic| first
  | (with_reducible exact c_int)
  | (with_reducible exact c_len_lst)
  | (with_reducible exact c_len_scr)
  | (with_reducible exact c_len_tup)
  | ((with_reducible refine' c_len_str ?h0); (case h0 => walk_at "pl_side"))
  | (with_reducible exact c_intB)
  | (with_reducible exact c_min)
  | (with_reducible exact c_max)
  | (with_reducible exact c_tuple))
local macro_rules | `(tactic| walk_at "pl_cf") => `(tactic| first
  | (with_reducible exact c_list)
  | (with_reducible exact c_listT))
local macro_rules | `(tactic| walk_at "pl_eab") => `(tactic| first
  | (with_reducible exact eb_nil)
  | ((with_reducible refine' eb_cons ?h0 ?h1); (case h0 => walk_at "pl_evb"); (case h1 => walk_at "pl_eab")))
local macro_rules | `(tactic| walk_at "pl_ea") => `(tactic| first
  | (with_reducible exact ea_nil)
  | ((with_reducible refine' ea_cons ?h0 ?h1); (case h0 => walk_at "pl_ev"); (case h1 => walk_at "pl_ea")))
local macro_rules | `(tactic| walk_at "pl_evb") => `(tactic| first
  | ((with_reducible refine' evb_var ?h0); (case h0 => rfl))
  | ((with_reducible refine' EvD.b ?h0); (case h0 => walk_at "pl_ev")))
local macro_rules | `(tactic| walk_at "pl_eo") => `(tactic| first
  | (with_reducible exact eo_none)
  | ((with_reducible refine' eo_some ?h0); (case h0 => walk_at "pl_ev")))
local macro_rules | `(tactic| walk_at "pl_opf") => `(tactic| first
  | ((with_reducible refine' oa_lst ?h0); (case h0 => walk_at "pl_len"))
  | ((with_reducible refine' om_rep ?h0 ?h1 ?h2); (case h0 => walk_at "pl_side"); (case h1 => walk_at "pl_side"); (case h2 => walk_at "pl_side")))
local macro_rules | `(tactic| walk_at "pl_evf") => `(tactic| first
  | (with_reducible exact ef_dnewT)
  | (with_reducible exact ef_dnewK)
  | ((with_reducible refine' ef_lst ?h0 ?h1); (case h0 => walk_at "pl_ea"); (case h1 => walk_at "pl_len"))
  | ((with_reducible refine' ef_slice ?h0 ?h1 ?h2); (case h0 => walk_at "pl_evb"); (case h1 => walk_at "pl_eo"); (case h2 => walk_at "pl_eo"))
  | ((with_reducible refine' ef_rev ?h0); (case h0 => walk_at "pl_evb"))
  | ((with_reducible refine' ef_cb ?h0 ?h1); (case h0 => walk_at "pl_eab"); (case h1 => walk_at "pl_cf"))
  | ((with_reducible refine' ev_opF ?h0 ?h1 ?h2); (case h0 => walk_at "pl_evb"); (case h1 => walk_at "pl_evb"); (case h2 => walk_at "pl_opf")))
local macro_rules | `(tactic| walk_at "pl_ev") => `(tactic| first
  | ((with_reducible refine' ev_var ?h0); (case h0 => rfl))
  | (with_reducible exact ev_int)
  | (with_reducible exact ev_str)
  | (with_reducible exact ev_bl)
  | (with_reducible exact ev_non)
  | ((with_reducible refine' ev_op ?h0 ?h1 ?h2); (case h0 => walk_at "pl_evb"); (case h1 => walk_at "pl_evb"); (case h2 => walk_at "pl_op"))
  | ((with_reducible refine' ev_cb ?h0 ?h1); (case h0 => walk_at "pl_eab"); (case h1 => walk_at "pl_cb"))
  | ((with_reducible refine' ev_isi ?h0 ?h1 ?h2); (case h0 => walk_at "pl_evb"); (case h1 => rfl); (case h2 => walk_at "pl_kk"))
  | ((with_reducible refine' ev_tup ?h0 ?h1); (case h0 => walk_at "pl_ea"); (case h1 => walk_at "pl_len"))
  | ((with_reducible refine' ev_neg ?h0); (case h0 => walk_at "pl_ev"))
  | ((with_reducible refine' ev_not ?h0); (case h0 => walk_at "pl_ev"))
  | ((with_reducible refine' ev_chain ?h0 ?h1 (fun _ => ?h2) ?h3 (fun _ => ?h4)); (case h0 => walk_at "pl_ev"); (case h1 => walk_at "pl_ev"); (case h3 => walk_at "pl_op"); (case h2 => walk_at "pl_ev"); (case h4 => walk_at "pl_op"))
  | ((with_reducible refine' ev_dinIS ?h0 ?h1); (case h0 => walk_at "pl_ev"); (case h1 => walk_at "pl_evb"))
  | ((with_reducible refine' ev_get2IS ?h0 ?h1 ?h2); (case h0 => walk_at "pl_evb"); (case h1 => walk_at "pl_ev"); (case h2 => walk_at "pl_ev"))
  | ((with_reducible refine' ev_and ?h0 ?h1); (case h0 => walk_at "pl_ev"); (case h1 => (intro hz; (try simp only [decide_eq_true_eq, decide_eq_false_iff_not] at hz); walk_at "pl_ev")))
  | ((with_reducible refine' ev_or ?h0 ?h1); (case h0 => walk_at "pl_ev"); (case h1 => (intro hz; (try simp only [decide_eq_true_eq, decide_eq_false_iff_not] at hz); walk_at "pl_ev")))
  | ((with_reducible refine' ev_sliceS ?h0 ?h1 ?h2 ?h3); (case h3 => walk_at "pl_side"); (case h0 => walk_at "pl_ev"); (case h1 => walk_at "pl_eo"); (case h2 => walk_at "pl_eo"))
  | ((with_reducible refine' EvF.im ?h0); (case h0 => walk_at "pl_evf")))
local macro_rules | `(tactic| walk_at "pl_et") => `(tactic| first
  | ((with_reducible refine' et_test ?h0); (case h0 => walk_at "pl_ev"))
  | ((with_reducible refine' et_B ?h0); (case h0 => walk_at "pl_ev"))
  | ((with_reducible refine' et_not ?h0); (case h0 => walk_at "pl_et"))
  | ((with_reducible refine' et_and ?h0 ?h1); (case h0 => walk_at "pl_et"); (case h1 => (intro hz; (try simp only [decide_eq_true_eq, decide_eq_false_iff_not] at hz); walk_at "pl_et")))
  | ((with_reducible refine' et_or ?h0 ?h1); (case h0 => walk_at "pl_et"); (case h1 => (intro hz; (try simp only [decide_eq_true_eq, decide_eq_false_iff_not] at hz); walk_at "pl_et")))
  | ((with_reducible refine' et_tru ?h0 ?h1); (case h0 => walk_at "pl_evb"); (case h1 => rfl)))
local macro_rules | `(tactic| walk_at "pl_nx") => `(tactic| simp only [List.set_cons_zero, List.set_cons_succ, Int.reduceToNat])
local macro_rules | `(tactic| walk_at "pl_sv") => `(tactic| first
  | ((with_reducible refine' sv_seq ?_))
  | ((with_reducible refine' sv_setF ?h0 ?_); (case h0 => walk_at "pl_evf"); walk_at "pl_nx")
  | ((with_reducible refine' sv_set ?h0 ?_); (case h0 => walk_at "pl_ev"); walk_at "pl_nx")
  | ((with_reducible refine' sv_app ?h0 ?h1 ?h2 ?_); (case h0 => rfl); (case h1 => walk_at "pl_ev"); (case h2 => walk_at "pl_side"); walk_at "pl_nx")
  | ((with_reducible refine' sv_dputIS ?h0 ?h1 ?h2 ?h3 ?_); (case h0 => rfl); (case h1 => walk_at "pl_ev"); (case h2 => walk_at "pl_ev"); (case h3 => walk_at "pl_side"); walk_at "pl_nx")
  | ((with_reducible refine' sv_next ?_))
  | ((with_reducible refine' sv_ret_own ?h0 ?_); (case h0 => rfl))
  | ((with_reducible refine' sv_retF ?h0 ?_); (case h0 => walk_at "pl_evf"))
  | ((with_reducible refine' sv_ret ?h0 ?_); (case h0 => walk_at "pl_ev"))
  | ((with_reducible refine' sv_cont ?_))
  | ((with_reducible refine' sv_brk ?_)))
local macro_rules | `(tactic| walk_at "pl_if") => `(tactic| ((with_reducible refine' sv_if ?h0 ?_ ?_); (case h0 => walk_at "pl_et")))
local macro_rules | `(tactic| walk_at "pl_go") => `(tactic| (repeat (walk_at "pl_sv")))

section
variable {K : PySem.W.Frag} {E : XK} {a : Adr} {ds : List D} {o : Out}
theorem asc_mem {n : Int} {acc : List Int} (h : acc.all (okSt n) = true) {k : Int} : k ∈ asc n acc ↔ k ∈ acc := by
  unfold asc
  rw [List.mem_filter, List.mem_map]
  constructor
  · rintro ⟨_, h2⟩; simpa using h2
  · intro hk
    have := List.all_eq_true.mp h k hk
    unfold okSt at this
    simp only [Bool.and_eq_true, decide_eq_true_eq] at this
    refine ⟨⟨k.toNat, ?_, by omega⟩, by simpa using hk⟩
    rw [List.mem_range]; omega
theorem asc_lt {n : Int} {acc : List Int} : (asc n acc).Pairwise (· < ·) := by
  unfold asc
  refine List.Pairwise.filter _ ?_
  rw [List.pairwise_map]
  exact List.pairwise_lt_range.imp fun h => by omega
theorem okSt_take {n : Int} {acc : List Int} {i : Nat} (hi : i < acc.length) (h : ∀ s ∈ acc.take i, okSt n s = true) (h2 : okSt n acc[i] = true) : ∀ s ∈ acc.take (i + 1), okSt n s = true := fun s hs => by
  rw [take_snoc hi, List.mem_append] at hs
  rcases hs with hs | hs
  · exact h s hs
  · rw [List.mem_singleton.mp hs]; exact h2
/-- no key twice before i -/
theorem tab_keys {n : Int} {ms : List Mv} : ∀ {i : Nat}, i ≤ ms.length → (∀ j < i, goodAt n ms j = true) → (tab (ms.take i)).1 = (ms.take i).map kM ∧ (tab (ms.take i)).2.length = i
  | 0, _, _ => ⟨by simp [tab], by simp [tab]⟩
  | i + 1, hi, h => by
    have hi' : i < ms.length := hi
    obtain ⟨h1, h2⟩ := tab_keys (i := i) (by omega) (fun j hj => h j (by omega))
    have hg := h i (by omega)
    rw [goodAt_iff hi', Bool.and_eq_true, Bool.not_eq_true', ← Bool.not_eq_true] at hg
    have hnk : kM ms[i] ∉ (ms.take i).map kM := fun z => hg.2 (memB_iff.mpr z)
    rw [take_snoc hi', tab_snoc, h1]
    dsimp only
    unfold putKs putVs
    rw [if_neg hnk, if_neg hnk, List.map_append]
    exact ⟨rfl, by simp [h2]⟩
def obj (a : Adr) (n : Int) (acc : List Int) (ms : List Mv) (i : Nat) : O := .nd (.ins a.c_Machine ["states", "accepting", "moves", "_after"])
  [.fz (.int n), .fz (.tup ((asc n acc).map .int)), .fz (.tup (ms.map dM)), .nd (.dt (tab (ms.take i)).1) (((tab (ms.take i)).2.map D.int).map .fz)]
theorem r_Machine_init (X : Kf K a) {x : Addr} {o0 : O} {o : OutI} (h : R_Machine_init a o0 ds o) : SvD K E (.dp (some x) o0 :: wr0 8 ds) (t_Machine_init K a E) (De.ofI x o) := by
  obtain ⟨n, acc, ms, rfl, rfl, hf, rfl⟩ := h
  show SvD K E [.dp (some x) (.nd (.ins a.c_Machine []) []), .im (.int n), .im (dI acc), .im (dMs ms), .no, .no, .no, .no, .no] _ _
  unfold t_Machine_init
  have hacl := hf.a
  have hmsl := hf.m
  walk_at "pl_sv"
  refine sv_mid (fun ρ' => ¬ 16 < n ∧ ρ' = [.dp (some x) (.nd (.ins a.c_Machine []) []), .im (.int n), .im (dI acc), .im (dMs ms), .no, .no, .no, .no, .no]) ?_ ?_
  · walk_at "pl_if"
    · intro hb
      simp only [decide_eq_true_eq] at hb
      have hmo : moOf n acc ms = .many := by unfold moOf; rw [if_pos hb]
      rw [hmo]
      exact sv_raise ev_int ⟨rfl, rfl, rfl⟩
    · intro hb
      simp only [decide_eq_false_iff_not] at hb
      walk_at "pl_go"
      exact ⟨hb, rfl⟩
  rintro _ ⟨h16, rfl⟩
  dsimp only
  walk_at "pl_sv"
  refine sv_mid (fun ρ' => acc.all (okSt n) = true ∧ ∃ s4, ρ' = [.dp (some x) (.nd (.ins a.c_Machine []) []), .im (.int n), .im (dI acc), .im (dMs ms), s4, .no, .no, .no, .no]) ?_ ?_
  · refine sv_for (it_list (ev_var (i := 2) rfl)) (fun i ρ' => (∀ s ∈ acc.take i, okSt n s = true) ∧ ∃ s4, ρ' = [.dp (some x) (.nd (.ins a.c_Machine []) []), .im (.int n), .im (dI acc), .im (dMs ms), s4, .no, .no, .no, .no]) ⟨by simp, _, rfl⟩ ?_ ?_
    · rintro i _ hi ⟨hg, s4, rfl⟩
      have hi' : i < acc.length := by simpa using hi
      refine ⟨_, tg_name, ?_⟩
      rw [getD_map hi']
      walk_at "pl_nx"
      refine sv_if (et_not (et_B (ev_call (ea_cons (ev_var rfl) (ea_cons (ev_var rfl) ea_nil)) ⟨acc[i], n, rfl, rfl⟩))) (fun hb => ?_) fun hb => ?_
      · have hmo : moOf n acc ms = .bad (-1) := by
          unfold moOf
          rw [if_neg h16, if_neg]
          intro q
          have := List.all_eq_true.mp q acc[i] (List.getElem_mem hi')
          rw [this] at hb; cases hb
        rw [hmo]
        exact sv_raise (ev_neg ev_int) ⟨rfl, rfl, rfl⟩
      · walk_at "pl_go"
        exact ⟨okSt_take hi' hg (by simpa using hb), _, rfl⟩
    · rintro _ ⟨hg, s4, rfl⟩
      refine ⟨?_, s4, rfl⟩
      rw [List.length_map, List.take_length] at hg
      exact List.all_eq_true.mpr hg
  rintro _ ⟨hacc, s4, rfl⟩
  dsimp only
  walk_at "pl_sv"
  refine sv_fldP X.cM X.n1 ep_var rfl rfl (EvD.n (ev_var (i := 1) rfl)) ?_
  simp only [O.put, List.set_cons_zero, List.nil_append]
  walk_at "pl_sv"
  refine sv_fldP X.cM X.n2 ep_var rfl rfl (EvD.n (ev_cb (eb_cons (EvD.b (EvF.im (ef_sortedSet (EvD.b (ev_var (i := 2) rfl)) asc_lt (fun k => asc_mem hacc) hacl))) eb_nil) c_tuple)) ?_
  simp only [O.put, List.set_cons_zero, List.cons_append, List.nil_append]
  walk_at "pl_sv"
  refine sv_fldP X.cM X.n3 ep_var rfl rfl (EvD.n (ev_cb (eb_cons (EvD.b (ev_var (i := 3) rfl)) eb_nil) c_tuple)) ?_
  simp only [O.put, List.set_cons_zero, List.cons_append, List.nil_append]
  walk_at "pl_sv"
  refine sv_fldP X.cM X.n4 ep_var rfl rfl (EvF.n (t := .dt []) (ds := []) ef_dnewT) ?_
  simp only [O.put, List.set_cons_zero, List.cons_append, List.nil_append, List.map_nil]
  have hob : (.nd (.ins a.c_Machine ["states", "accepting", "moves", "_after"]) [.fz (.int n), .fz (.tup ((asc n acc).map .int)), .fz (.tup (ms.map dM)), .nd (.dt []) []] : O) = obj a n acc ms 0 := rfl
  rw [hob]
  have hmv : ∀ {i : Nat} {ρ' : List Sl}, ρ'[0]? = some (.dp (some x) (obj a n acc ms i)) → EvD K ρ' (tFld K (tVar 0) "moves") (.tup (ms.map dM)) := fun e =>
    ev_path (ep_fld 2 X.cM X.n3 ep_var e rfl (hk := by simp)) e rfl
  refine sv_for (it_enumT (hmv (i := 0) rfl)) (fun i ρ' => (∀ j < i, goodAt n ms j = true) ∧ ∃ s4 s5 s6 s7 s8, ρ' = [.dp (some x) (obj a n acc ms i), .im (.int n), .im (dI acc), .im (dMs ms), s4, s5, s6, s7, s8]) ⟨fun j hj => by omega, _, _, _, _, _, rfl⟩ ?_ ?_
  · rintro i _ hi ⟨hg, s4, s5, s6, s7, s8, rfl⟩
    have hi' : i < ms.length := by simpa using hi
    rw [getD_map hi']
    refine ⟨_, tg_tup (tgs_cons tg_name (tgs_cons (tg_tup (tgs_cons tg_name (tgs_cons tg_name (tgs_cons tg_name tgs_nil)))) tgs_nil)), ?_⟩
    walk_at "pl_nx"
    obtain ⟨hk1, hk2⟩ := tab_keys (by omega) hg
    walk_at "pl_sv"
    have hst : ∀ {ρ' : List Sl} {j : Nat} {s : Int}, ρ'[j]? = some (.im (.int s)) → ρ'[1]? = some (.im (.int n)) → EvD K ρ' (tCall (spD K (R_is_state a)) [] E0 (tCons (tVar j) (tCons (tVar 1) tNil))) (.bl (okSt n s)) := fun e1 e2 =>
      ev_call (ea_cons (ev_var e1) (ea_cons (ev_var e2) ea_nil)) ⟨_, n, rfl, rfl⟩
    refine sv_set (ev_or (ev_not (hst rfl rfl)) fun _ => ev_not (hst rfl rfl)) ?_
    walk_at "pl_nx"
    walk_at "pl_sv"
    have hin : EvT K [.dp (some x) (obj a n acc ms i), .im (.int n), .im (dI acc), .im (dMs ms), .im (.int ms[i].1), .im (.int (i : Int)), .im (.str ms[i].2.1), .im (.int ms[i].2.2), .im (.bl (!okSt n ms[i].1 || !okSt n ms[i].2.2))] (tB (tDIn (tTup (tCons (tVar 4) (tCons (tVar 6) tNil))) (tFld K (tVar 0) "_after"))) (memB (kM ms[i]) ((ms.take i).map kM)) := by
      rw [← hk1, ← valD_isSome (l := (tab (ms.take i)).2.map .int) (by rw [hk1]; simp [hk2]; omega)]
      exact et_B (ev_dinIS (ev_tup (ea_cons (ev_var rfl) (ea_cons (ev_var rfl) ea_nil)) (by simp)) (evb_path (t := .dt (tab (ms.take i)).1) (ep_fld 3 X.cM X.n4 ep_var rfl rfl (hk := by simp)) rfl rfl))
    refine sv_mid (fun ρ' => goodAt n ms i = true ∧ ρ' = [.dp (some x) (obj a n acc ms i), .im (.int n), .im (dI acc), .im (dMs ms), .im (.int ms[i].1), .im (.int (i : Int)), .im (.str ms[i].2.1), .im (.int ms[i].2.2), .im (.bl (!okSt n ms[i].1 || !okSt n ms[i].2.2))]) ?_ ?_
    · refine sv_if (et_or (et_B (ev_var rfl)) fun _ => et_letter rfl (by have := (hf.l _ (List.getElem_mem hi')).1; omega) hin) (fun hb => ?_) fun hb => ?_
      · have hbad : goodAt n ms i = false := by
          rw [goodAt_iff hi']; unfold okM
          revert hb
          cases okSt n ms[i].1 <;> cases okSt n ms[i].2.2 <;> cases okL ms[i].2.1 <;> cases memB (kM ms[i]) ((ms.take i).map kM) <;> simp
        have hmo : moOf n acc ms = .bad i := by
          unfold moOf
          rw [if_neg h16, if_pos hacc, firstBad_some hi' hg hbad]
        rw [hmo]
        exact sv_raise (ev_var rfl) ⟨rfl, rfl, rfl⟩
      · walk_at "pl_go"
        refine ⟨?_, rfl⟩
        rw [goodAt_iff hi']; unfold okM
        revert hb
        cases okSt n ms[i].1 <;> cases okSt n ms[i].2.2 <;> cases okL ms[i].2.1 <;> cases memB (kM ms[i]) ((ms.take i).map kM) <;> simp
    rintro _ ⟨hgood, rfl⟩
    dsimp only
    refine sv_dputTP (k := kM ms[i]) (ks := (tab (ms.take i)).1) (l := (tab (ms.take i)).2.map .int) (ep_fld 3 X.cM X.n4 ep_var rfl rfl (hk := by simp)) rfl rfl (ev_var (i := 7) rfl) (ev_tup (ea_cons (ev_var (i := 4) rfl) (ea_cons (ev_var (i := 6) rfl) ea_nil)) (by simp)) (by rw [hk1]; simp; omega) ?_
    refine ⟨fun j hj => ?_, .im (.int ms[i].1), .im (.int (i : Int)), .im (.str ms[i].2.1), .im (.int ms[i].2.2), .im (.bl (!okSt n ms[i].1 || !okSt n ms[i].2.2)), ?_⟩
    · rcases Nat.lt_or_ge j i with h | h
      · exact hg j h
      · have : j = i := by omega
        subst this; exact hgood
    · rw [putVs_map D.int]
      show [Sl.dp (some x) _, _, _, _, _, _, _, _, _] = _
      have : obj a n acc ms (i + 1) = (obj a n acc ms i).put ([] ++ [3]) (.nd (.dt (putKs (tab (ms.take i)).1 (kM ms[i]))) (((putVs (tab (ms.take i)).1 (tab (ms.take i)).2 (kM ms[i]) ms[i].2.2).map D.int).map .fz)) := by
        unfold obj
        rw [take_snoc hi', tab_snoc]
        rfl
      rw [this]
  · rintro _ ⟨hg, s4, s5, s6, s7, s8, rfl⟩
    rw [List.length_map] at hg ⊢
    have hmo : moOf n acc ms = .ok := by
      unfold moOf
      rw [if_neg h16, if_pos hacc, firstBad_none hg]
    rw [hmo]
    show some _ = some _
    unfold obj mach
    rw [List.take_length]
end
end K66

set_option Elab.async false
set_option linter.all false
set_option maxRecDepth 100000
set_option maxHeartbeats 1000000
namespace K66
open PySem PySem.Spec PyProof.Rows L2 PL
local macro_rules | `(tactic| walk_at "pl_len") => `(tactic| first
  | decide
  | (with_reducible assumption)
  | (simp; done)
  | omega)
local macro_rules | `(tactic| walk_at "pl_kk") => `(tactic| first
  | (with_reducible exact kk_NoneType_bool)
  | (with_reducible exact kk_NoneType_int)
  | (with_reducible exact kk_NoneType_str)
  | (with_reducible exact kk_NoneType_list)
  | (with_reducible exact kk_NoneType_tuple)
  | (with_reducible exact kk_bool_bool)
  | (with_reducible exact kk_bool_int)
  | (with_reducible exact kk_bool_str)
  | (with_reducible exact kk_bool_list)
  | (with_reducible exact kk_bool_tuple)
  | (with_reducible exact kk_int_bool)
  | (with_reducible exact kk_int_int)
  | (with_reducible exact kk_int_str)
  | (with_reducible exact kk_int_list)
  | (with_reducible exact kk_int_tuple)
  | (with_reducible exact kk_str_bool)
  | (with_reducible exact kk_str_int)
  | (with_reducible exact kk_str_str)
  | (with_reducible exact kk_str_list)
  | (with_reducible exact kk_str_tuple)
  | (with_reducible exact kk_list_bool)
  | (with_reducible exact kk_list_int)
  | (with_reducible exact kk_list_str)
  | (with_reducible exact kk_list_list)
  | (with_reducible exact kk_list_tuple)
  | (with_reducible exact kk_tuple_bool)
  | (with_reducible exact kk_tuple_int)
  | (with_reducible exact kk_tuple_str)
  | (with_reducible exact kk_tuple_list)
  | (with_reducible exact kk_tuple_tuple))
local macro_rules | `(tactic| walk_at "pl_at") => `(tactic| first
  | (with_reducible assumption)
  | assumption
  | rfl)
local macro_rules | `(tactic| walk_at "pl_side") => `(tactic| first
  | (with_reducible assumption)
  | omega
  | decide
  | (simp only [len_one]; omega))
local macro_rules | `(tactic| walk_at "pl_op") => `(tactic| first
  | (with_reducible exact oa_int)
  | (with_reducible exact om_sub)
  | (with_reducible exact om_lt)
  | (with_reducible exact om_le)
  | (with_reducible exact om_gt)
  | (with_reducible exact om_ge)
  | (with_reducible exact oe_int)
  | (with_reducible exact on_int)
  | (with_reducible exact oe_str)
  | (with_reducible exact on_str)
  | (with_reducible exact oe_bl)
  | (with_reducible exact on_bl)
  | (with_reducible exact oi_lint)
  | (with_reducible exact oi_tint)
  | (with_reducible exact oi_tstr)
  | (with_reducible exact oi_sign)
  | (with_reducible exact oni_sign)
  | (with_reducible exact oni_lint)
  | (with_reducible exact ois_non)
  | (with_reducible exact oisn_non)
  | ((with_reducible refine' om_mod ?h0); (case h0 => walk_at "pl_side"))
  | ((with_reducible refine' om_fdv ?h0 ?h1); (case h0 => walk_at "pl_side"); (case h1 => walk_at "pl_side"))
  | ((with_reducible refine' om_mulL ?h0 ?h1); (case h0 => walk_at "pl_side"); (case h1 => walk_at "pl_side"))
  | ((with_reducible refine' om_mulR ?h0 ?h1); (case h0 => walk_at "pl_side"); (case h1 => walk_at "pl_side"))
  | ((with_reducible refine' om_pow ?h0 ?h1 ?h2); (case h0 => walk_at "pl_side"); (case h1 => walk_at "pl_side"); (case h2 => walk_at "pl_side"))
  | ((with_reducible refine' ox_int ?h0 ?h1); (case h0 => walk_at "pl_side"); (case h1 => walk_at "pl_side"))
  | ((with_reducible refine' ox_scr ?h0 ?h1); (case h0 => walk_at "pl_side"); (case h1 => walk_at "pl_side"))
  | ((with_reducible refine' ox_lst ?h0); (case h0 => walk_at "pl_at"))
  | ((with_reducible refine' ox_tup ?h0); (case h0 => walk_at "pl_at"))
  | ((with_reducible refine' ox_str ?h0 ?h1); (case h0 => walk_at "pl_side"); (case h1 => walk_at "pl_at"))
  | ((with_reducible refine' oa_str ?h0); (case h0 => walk_at "pl_side"))
  | ((with_reducible refine' om_str ?h0); (case h0 => walk_at "pl_side")))
local macro_rules | `(tactic| walk_at "pl_cb") => `(tactic| first
  | (with_reducible exact c_int)
  | (with_reducible exact c_len_lst)
  | (with_reducible exact c_len_scr)
  | (with_reducible exact c_len_tup)
  | ((with_reducible refine' c_len_str ?h0); (case h0 => walk_at "pl_side"))
  | (with_reducible exact c_intB)
  | (with_reducible exact c_min)
  | (with_reducible exact c_max)
  | (with_reducible exact c_tuple))
local macro_rules | `(tactic| walk_at "pl_cf") => `(tactic| first
  | (with_reducible exact c_list)
  | (with_reducible exact c_listT))
local macro_rules | `(tactic| walk_at "pl_eab") => `(tactic| first
  | (with_reducible exact eb_nil)
  | ((with_reducible refine' eb_cons ?h0 ?h1); (case h0 => walk_at "pl_evb"); (case h1 => walk_at "pl_eab")))
local macro_rules | `(tactic| walk_at "pl_ea") => `(tactic| first
  | (with_reducible exact ea_nil)
  | ((with_reducible refine' ea_cons ?h0 ?h1); (case h0 => walk_at "pl_ev"); (case h1 => walk_at "pl_ea")))
local macro_rules | `(tactic| walk_at "pl_evb") => `(tactic| first
  | ((with_reducible refine' evb_var ?h0); (case h0 => rfl))
  | ((with_reducible refine' EvD.b ?h0); (case h0 => walk_at "pl_ev")))
local macro_rules | `(tactic| walk_at "pl_eo") => `(tactic| first
  | (with_reducible exact eo_none)
  | ((with_reducible refine' eo_some ?h0); (case h0 => walk_at "pl_ev")))
local macro_rules | `(tactic| walk_at "pl_opf") => `(tactic| first
  | ((with_reducible refine' oa_lst ?h0); (case h0 => walk_at "pl_len"))
  | ((with_reducible refine' om_rep ?h0 ?h1 ?h2); (case h0 => walk_at "pl_side"); (case h1 => walk_at "pl_side"); (case h2 => walk_at "pl_side")))
local macro_rules | `(tactic| walk_at "pl_evf") => `(tactic| first
  | (with_reducible exact ef_dnewT)
  | (with_reducible exact ef_dnewK)
  | ((with_reducible refine' ef_lst ?h0 ?h1); (case h0 => walk_at "pl_ea"); (case h1 => walk_at "pl_len"))
  | ((with_reducible refine' ef_slice ?h0 ?h1 ?h2); (case h0 => walk_at "pl_evb"); (case h1 => walk_at "pl_eo"); (case h2 => walk_at "pl_eo"))
  | ((with_reducible refine' ef_rev ?h0); (case h0 => walk_at "pl_evb"))
  | ((with_reducible refine' ef_cb ?h0 ?h1); (case h0 => walk_at "pl_eab"); (case h1 => walk_at "pl_cf"))
  | ((with_reducible refine' ev_opF ?h0 ?h1 ?h2); (case h0 => walk_at "pl_evb"); (case h1 => walk_at "pl_evb"); (case h2 => walk_at "pl_opf")))
local macro_rules | `(tactic| walk_at "pl_ev") => `(tactic| first
  | ((with_reducible refine' ev_var ?h0); (case h0 => rfl))
  | (with_reducible exact ev_int)
  | (with_reducible exact ev_str)
  | (with_reducible exact ev_bl)
  | (with_reducible exact ev_non)
  | ((with_reducible refine' ev_op ?h0 ?h1 ?h2); (case h0 => walk_at "pl_evb"); (case h1 => walk_at "pl_evb"); (case h2 => walk_at "pl_op"))
  | ((with_reducible refine' ev_cb ?h0 ?h1); (case h0 => walk_at "pl_eab"); (case h1 => walk_at "pl_cb"))
  | ((with_reducible refine' ev_isi ?h0 ?h1 ?h2); (case h0 => walk_at "pl_evb"); (case h1 => rfl); (case h2 => walk_at "pl_kk"))
  | ((with_reducible refine' ev_tup ?h0 ?h1); (case h0 => walk_at "pl_ea"); (case h1 => walk_at "pl_len"))
  | ((with_reducible refine' ev_neg ?h0); (case h0 => walk_at "pl_ev"))
  | ((with_reducible refine' ev_not ?h0); (case h0 => walk_at "pl_ev"))
  | ((with_reducible refine' ev_chain ?h0 ?h1 (fun _ => ?h2) ?h3 (fun _ => ?h4)); (case h0 => walk_at "pl_ev"); (case h1 => walk_at "pl_ev"); (case h3 => walk_at "pl_op"); (case h2 => walk_at "pl_ev"); (case h4 => walk_at "pl_op"))
  | ((with_reducible refine' ev_dinIS ?h0 ?h1); (case h0 => walk_at "pl_ev"); (case h1 => walk_at "pl_evb"))
  | ((with_reducible refine' ev_get2IS ?h0 ?h1 ?h2); (case h0 => walk_at "pl_evb"); (case h1 => walk_at "pl_ev"); (case h2 => walk_at "pl_ev"))
  | ((with_reducible refine' ev_and ?h0 ?h1); (case h0 => walk_at "pl_ev"); (case h1 => (intro hz; (try simp only [decide_eq_true_eq, decide_eq_false_iff_not] at hz); walk_at "pl_ev")))
  | ((with_reducible refine' ev_or ?h0 ?h1); (case h0 => walk_at "pl_ev"); (case h1 => (intro hz; (try simp only [decide_eq_true_eq, decide_eq_false_iff_not] at hz); walk_at "pl_ev")))
  | ((with_reducible refine' ev_sliceS ?h0 ?h1 ?h2 ?h3); (case h3 => walk_at "pl_side"); (case h0 => walk_at "pl_ev"); (case h1 => walk_at "pl_eo"); (case h2 => walk_at "pl_eo"))
  | ((with_reducible refine' EvF.im ?h0); (case h0 => walk_at "pl_evf")))
local macro_rules | `(tactic| walk_at "pl_et") => `(tactic| first
  | ((with_reducible refine' et_test ?h0); (case h0 => walk_at "pl_ev"))
  | ((with_reducible refine' et_B ?h0); (case h0 => walk_at "pl_ev"))
  | ((with_reducible refine' et_not ?h0); (case h0 => walk_at "pl_et"))
  | ((with_reducible refine' et_and ?h0 ?h1); (case h0 => walk_at "pl_et"); (case h1 => (intro hz; (try simp only [decide_eq_true_eq, decide_eq_false_iff_not] at hz); walk_at "pl_et")))
  | ((with_reducible refine' et_or ?h0 ?h1); (case h0 => walk_at "pl_et"); (case h1 => (intro hz; (try simp only [decide_eq_true_eq, decide_eq_false_iff_not] at hz); walk_at "pl_et")))
  | ((with_reducible refine' et_tru ?h0 ?h1); (case h0 => walk_at "pl_evb"); (case h1 => rfl)))
local macro_rules | `(tactic| walk_at "pl_nx") => `(tactic| simp only [List.set_cons_zero, List.set_cons_succ, Int.reduceToNat])
local macro_rules | `(tactic| walk_at "pl_sv") => `(tactic| first
  | ((with_reducible refine' sv_seq ?_))
  | ((with_reducible refine' sv_setF ?h0 ?_); (case h0 => walk_at "pl_evf"); walk_at "pl_nx")
  | ((with_reducible refine' sv_set ?h0 ?_); (case h0 => walk_at "pl_ev"); walk_at "pl_nx")
  | ((with_reducible refine' sv_app ?h0 ?h1 ?h2 ?_); (case h0 => rfl); (case h1 => walk_at "pl_ev"); (case h2 => walk_at "pl_side"); walk_at "pl_nx")
  | ((with_reducible refine' sv_dputIS ?h0 ?h1 ?h2 ?h3 ?_); (case h0 => rfl); (case h1 => walk_at "pl_ev"); (case h2 => walk_at "pl_ev"); (case h3 => walk_at "pl_side"); walk_at "pl_nx")
  | ((with_reducible refine' sv_next ?_))
  | ((with_reducible refine' sv_ret_own ?h0 ?_); (case h0 => rfl))
  | ((with_reducible refine' sv_retF ?h0 ?_); (case h0 => walk_at "pl_evf"))
  | ((with_reducible refine' sv_ret ?h0 ?_); (case h0 => walk_at "pl_ev"))
  | ((with_reducible refine' sv_cont ?_))
  | ((with_reducible refine' sv_brk ?_)))
local macro_rules | `(tactic| walk_at "pl_if") => `(tactic| ((with_reducible refine' sv_if ?h0 ?_ ?_); (case h0 => walk_at "pl_et")))
local macro_rules | `(tactic| walk_at "pl_go") => `(tactic| (repeat (walk_at "pl_sv")))

section
variable {K : PySem.W.Frag} {E : XK} {a : Adr} {ds : List D} {o : Out}
theorem O_dL_fz (l : List D) : O.dL (l.map .fz) = l := O.dL_fz l
theorem mach_d (n : Int) (acc : List Int) (ms : List Mv) : (mach a n acc ms).d = machD a n acc ms := by
  unfold mach machD
  simp only [O.d, O.dL, Tp.d, O.dL_fz]
theorem mach_nol (n : Int) (acc : List Int) (ms : List Mv) : NoLO (mach a n acc ms) := by
  unfold mach
  simp only [NoLO, NoLOL, NoL]
  refine ⟨trivial, NoLL.of fun d hd => ?_, NoLL.of fun d hd => ?_, NoLOL.of_fz fun d hd => ?_, trivial⟩
  · obtain ⟨x, _, rfl⟩ := List.mem_map.mp hd; trivial
  · obtain ⟨x, _, rfl⟩ := List.mem_map.mp hd; exact ⟨trivial, trivial, trivial, trivial⟩
  · obtain ⟨x, _, rfl⟩ := List.mem_map.mp hd; trivial
theorem good_moves {n : Nat} {l : List Mv} (h : ∀ m ∈ l, okS m.2.1) : good (n + 2) (dMs l) := fun d hd => by
  obtain ⟨x, hx, rfl⟩ := List.mem_map.mp hd
  intro y hy
  simp only [List.mem_cons, List.not_mem_nil, or_false] at hy
  rcases hy with rfl | rfl | rfl
  · cases n <;> trivial
  · cases n <;> exact (h x hx).2
  · cases n <;> trivial
theorem pure_moves {n : Nat} {l : List Mv} : pure_ (n + 2) (dMs l) := fun d hd => by
  obtain ⟨x, hx, rfl⟩ := List.mem_map.mp hd
  intro y hy
  simp only [List.mem_cons, List.not_mem_nil, or_false] at hy
  rcases hy with rfl | rfl | rfl <;> cases n <;> trivial
theorem pure_int {n : Nat} {l : List Int} : pure_ (n + 1) (dI l) := fun d hd => by
  obtain ⟨x, _, rfl⟩ := List.mem_map.mp hd
  cases n <;> trivial
abbrev hO (acc : List Int) (ms : List Mv) : O := .nd .lst [.nd .lst ((acc.map D.int).map .fz), .nd .lst ((ms.map dM).map .fz)]
def MO.m (a : Adr) (n : Int) (acc : List Int) (ms : List Mv) : MO → D
  | .ok => machD a n acc ms
  | _ => .non
theorem r__law_made (X : Kf K a) (h : R__law_made a ds o) : SvD K E (wr0 7 ds) (t__law_made K a E) (De.of o) := by
  obtain ⟨n, acc, ms, rfl, hf, rfl⟩ := h
  show SvD K E [.im (.int n), .im (dI acc), .im (dMs ms), .no, .no, .no, .no] _ _
  unfold t__law_made
  have hacl := hf.a
  have hmsl := hf.m
  walk_at "pl_sv"
  refine sv_setO (o := hO acc ms) (en_lst (ena_cons (EvF.n (t := .lst) (ef_cb (eb_cons (EvD.b (ev_var (i := 1) rfl)) eb_nil) c_list)) (ena_cons (EvF.n (t := .lst) (ef_cb (eb_cons (EvD.b (ev_var (i := 2) rfl)) eb_nil) c_list)) ena_nil)) (by simp)) ?_
  walk_at "pl_nx"
  iterate 4 walk_at "pl_sv"
  walk_at "pl_sv"
  have hmo : ∀ mo : MO, moOf n acc ms = mo → ∃ l, mo.due = .lst l := fun mo _ => by cases mo <;> exact ⟨_, rfl⟩
  refine sv_mid (fun ρ' => ∃ s6, ρ' = [.im (.int n), .im (dI acc), .im (dMs ms), .dp none (hO acc ms), .im ((moOf n acc ms).m a n acc ms), .ow (moOf n acc ms).due, s6]) ?_ ?_
  · have hargs : EvAB K [.im (.int n), .im (dI acc), .im (dMs ms), .dp none (hO acc ms), .im .non, .ow (.lst [.str "machine", .int 0]), .no] (tCons (tVar 0) (tCons (tOp (rIx K) (tVar 3) (tC (.int 0))) (tCons (tOp (rIx K) (tVar 3) (tC (.int 1))) tNil))) [.int n, dI acc, dMs ms] :=
      eb_cons (EvD.b (ev_var rfl)) (eb_cons (evb_path (t := .lst) (ep_ix 0 ep_var rfl rfl (by simp)) rfl rfl) (eb_cons (evb_path (t := .lst) (ep_ix 1 ep_var rfl rfl (by simp)) rfl rfl) eb_nil))
    have hargsW : EvAW K [.im (.int n), .im (dI acc), .im (dMs ms), .dp none (hO acc ms), .im .non, .ow (.lst [.str "machine", .int 0]), .no] (tCons (tVar 0) (tCons (tOp (rIx K) (tVar 3) (tC (.int 0))) (tCons (tOp (rIx K) (tVar 3) (tC (.int 1))) tNil))) [.int n, dI acc, dMs ms] :=
      ea_wcons (EvB.w (EvD.b (ev_var rfl))) (ea_wcons (EvB.w (evb_path (t := .lst) (ep_ix 0 ep_var rfl rfl (by simp)) rfl rfl)) (ea_wcons (EvB.w (evb_path (t := .lst) (ep_ix 1 ep_var rfl rfl (by simp)) rfl rfl)) ea_wnil))
    have hR : ∀ {mo : MO}, moOf n acc ms = mo → R_Machine_init a (.nd (.ins a.c_Machine []) []) ([.int n, dI acc, dMs ms] ++ []) (match mo with | .many => .exc a.c_TooMany ["limit"] [.int 16] | .bad i => .exc a.c_BadMachine ["place"] [.int i] | .ok => .ret (mach a n acc ms)) := fun e => ⟨n, acc, ms, rfl, rfl, hf, by rw [e] <;> rfl⟩
    cases hm : moOf n acc ms with
    | ok =>
      refine sv_try_ret fun W => sv_set (EvN.im (en_makeS fun E => en_makeL hargs (by simp [lend]) (hR hm) (mach_nol n acc ms))) ?_
      rw [mach_d]
      exact ⟨_, rfl⟩
    | many =>
      refine sv_try_exc (bx_make hargsW (hR hm)) X.xT (by simp [flat]) fun ea dd => ?_
      walk_at "pl_nx"
      iterate 3 walk_at "pl_sv"
      refine sv_mid (fun ρ' => ρ' = [.im (.int n), .im (dI acc), .im (dMs ms), .dp none (hO acc ms), .im .non, .ow (.lst [.str "many", .int 16]), .ex ea dd ["limit"] [.int 16]]) ?_ ?_
      · refine sv_if (et_and (et_B (ev_isxR rfl X.eT X.TT)) fun _ => et_and (et_B (ev_isxT rfl X.eT X.TV)) fun _ => et_not (et_B (ev_isxR rfl X.eT X.TB))) (fun _ => ?_) (fun hb => by cases hb)
        refine sv_setF (ef_lst (ea_cons ev_str (ea_cons (ev_xf 0 rfl rfl) ea_nil)) (by simp)) ?_
        rfl
      rintro _ rfl
      refine sv_if (et_and (b := false) (et_B (ev_isxR rfl X.eT X.TB)) fun hz => by cases hz) (fun hb => by cases hb) fun _ => ?_
      walk_at "pl_sv"
      exact ⟨_, rfl⟩
    | bad i =>
      refine sv_try_exc (bx_make hargsW (hR hm)) X.xB (by simp [flat]) fun ea dd => ?_
      walk_at "pl_nx"
      iterate 3 walk_at "pl_sv"
      refine sv_mid (fun ρ' => ρ' = [.im (.int n), .im (dI acc), .im (dMs ms), .dp none (hO acc ms), .im .non, .ow (.lst [.str "other", .int 0]), .ex ea dd ["place"] [.int i]]) ?_ ?_
      · refine sv_if (et_and (b := false) (et_B (ev_isxR rfl X.eB X.BT)) fun hz => by cases hz) (fun hb => by cases hb) fun _ => ?_
        walk_at "pl_sv"
        rfl
      rintro _ rfl
      refine sv_if (et_and (et_B (ev_isxR rfl X.eB X.BB)) fun _ => et_and (et_B (ev_isxT rfl X.eB X.BV)) fun _ => et_not (et_B (ev_isxR rfl X.eB X.BT))) (fun _ => ?_) (fun hb => by cases hb)
      refine sv_setF (ef_lst (ea_cons ev_str (ea_cons (ev_xf 0 rfl rfl) ea_nil)) (by simp)) ?_
      exact ⟨_, rfl⟩
  rintro _ ⟨s6, rfl⟩
  dsimp only
  walk_at "pl_sv"
  obtain ⟨dl, hdl⟩ := hmo _ rfl
  rw [hdl]
  refine sv_mid (fun ρ' => ρ' = [.im (.int n), .im (dI acc), .im (dMs ms), .dp none (hO acc ms), .im ((moOf n acc ms).m a n acc ms), .ow (.lst dl), s6]) ?_ ?_
  · have hod : (hO acc ms).d = .lst [dI acc, dMs ms] := by simp only [O.d, O.dL, Tp.d, O.dL_fz]
    have g1 : good 60 (.lst [dI acc, dMs ms]) := fun d hd => by
      simp only [List.mem_cons, List.not_mem_nil, or_false] at hd
      rcases hd with rfl | rfl
      · exact good_int
      · exact good_moves hf.l
    have p1 : pure_ 60 (.lst [dI acc, dMs ms]) := fun d hd => by
      simp only [List.mem_cons, List.not_mem_nil, or_false] at hd
      rcases hd with rfl | rfl
      · exact pure_int
      · exact pure_moves
    have h1 := ew_var (K := K) (ρ := [.im (.int n), .im (dI acc), .im (dMs ms), .dp none (hO acc ms), .im ((moOf n acc ms).m a n acc ms), .ow (.lst dl), s6]) (i := 3) rfl
    rw [hod] at h1
    refine sv_if (et_test (ev_opW h1 (EvB.w (EvD.b (EvF.im (ef_lst (ea_cons (ev_var rfl) (ea_cons (ev_var rfl) ea_nil)) (by simp))))) (on_pure g1 g1 p1 p1))) (fun hb => ?_) fun hb => ?_
    · simp at hb
    · walk_at "pl_sv"
      rfl
  rintro _ rfl
  dsimp only
  walk_at "pl_sv"
  refine sv_appP (ep_ix 0 ep_var rfl rfl (by simp)) rfl rfl ev_int (by simp; omega) ?_
  simp only [O.put, List.set_cons_zero, List.set_cons_succ, List.nil_append, List.getElem?_cons_zero]
  walk_at "pl_sv"
  refine sv_appP (ep_ix 1 ep_var rfl rfl (by simp)) rfl rfl (ev_tup (ea_cons ev_int (ea_cons ev_str (ea_cons ev_int ea_nil))) (by simp)) (by simp; omega) ?_
  simp only [O.put, List.set_cons_zero, List.set_cons_succ, List.nil_append]
  refine sv_frz 5 rfl ?_
  walk_at "pl_nx"
  refine sv_retF (ef_lst (ea_cons (ev_var rfl) (ea_cons (ev_var rfl) ea_nil)) (by simp)) ?_
  show _ = _
  unfold MO.m
  cases moOf n acc ms <;> rfl

theorem dszL_map {α : Type} {f : α → D} {c : Nat} {l : List α} (h : ∀ x ∈ l, dsz (f x) ≤ c) : dszL (l.map f) ≤ c * l.length := by
  induction l with
  | nil => simp [dszL]
  | cons x l ih =>
    have h1 := h x (by simp)
    have h2 := ih fun y hy => h y (by simp [hy])
    simp only [List.map_cons, dszL, List.length_cons]
    rw [Nat.mul_add]; omega
theorem asc_len {n : Int} {acc : List Int} : (asc n acc).length ≤ n.toNat := by
  unfold asc
  refine Nat.le_trans (List.length_filter_le _ _) (by simp)
theorem r__law_reads (X : Kf K a) (h : R__law_reads a ds o) : SvD K E (wr0 11 ds) (t__law_reads K a E) (De.of o) := by
  obtain ⟨n, acc, ms, ws, rfl, hf, hacc, hw, rfl⟩ := h
  show SvD K E [.im (machD a n acc ms), .im (.int n), .im (dI acc), .im (dMs ms), .im (.lst (ws.map .str)), .no, .no, .no, .no, .no, .no] _ _
  unfold t__law_reads
  have hacl := hf.a
  have hmsl := hf.m
  have hn1 := hf.n1
  have hn2 := hf.n2
  walk_at "pl_sv"
  have h1 : EvF K [.im (machD a n acc ms), .im (.int n), .im (dI acc), .im (dMs ms), .im (.lst (ws.map .str)), .no, .no, .no, .no, .no, .no] (tLc (iRng1 (tCons (tVar 1) (tNil))) (gName 6) (tTest (tOp (rInU K) (tVar 6) (tVar 2))) (tVar 6) [6]) (.lst ((asc n acc).map .int)) := by
    have := ef_lcR (K := K) (ρ := [.im (machD a n acc ms), .im (.int n), .im (dI acc), .im (dMs ms), .im (.lst (ws.map .str)), .no, .no, .no, .no, .no, .no]) (te0 := tVar 1) (te := tVar 6) (tt := tTest (tOp (rInU K) (tVar 6) (tVar 2))) (v := 6) (n := n) (fun (i : Nat) => decide ((i : Int) ∈ acc)) (fun (i : Nat) => .int (i : Int)) (ev_var rfl) (by omega) (by omega) fun x hx => ⟨by walk_at "pl_nx"; walk_at "pl_et", fun _ => by walk_at "pl_nx"; walk_at "pl_ev"⟩
    have e : (asc n acc).map D.int = ((List.range n.toNat).filter fun (i : Nat) => decide ((i : Int) ∈ acc)).map fun (i : Nat) => D.int (i : Int) := by
      unfold asc
      rw [List.filter_map, List.map_map]; rfl
    rw [e]; exact this
  refine sv_setF h1 ?_
  walk_at "pl_nx"
  walk_at "pl_sv"
  have hD : ∀ l : List Mv, (∀ m ∈ l, okS m.2.1) → good 49 (.tup (l.map dM)) := fun l hl => good_moves (n := 47) hl
  refine sv_mid (fun ρ' => ρ' = [.im (machD a n acc ms), .im (.int n), .im (dI acc), .im (dMs ms), .im (.lst (ws.map .str)), .ow (.lst ((asc n acc).map .int)), .no, .no, .no, .no, .no]) ?_ ?_
  · refine sv_if (et_not (et_B (ev_call (d := .bl true) (ea_cons (EvF.im (ef_lst (ea_cons (ev_fld 0 X.cM X.n1 (EvD.b (ev_var rfl)) rfl) (ea_cons (ev_fld 1 X.cM X.n2 (EvD.b (ev_var rfl)) rfl) (ea_cons (ev_fld 2 X.cM X.n3 (EvD.b (ev_var rfl)) rfl) ea_nil))) (by simp))) (ea_cons (EvF.im (ef_lst (ea_cons (ev_var rfl) (ea_cons (ev_cb (eb_cons (evb_var rfl) eb_nil) c_tuple) (ea_cons (ev_cb (eb_cons (EvD.b (ev_var rfl)) eb_nil) c_tuple) ea_nil))) (by simp))) ea_nil)) ⟨_, rfl, ?_, ?_, rfl⟩))) (fun hb => by cases hb) fun _ => ?_
    · intro d hd
      simp only [List.mem_cons, List.not_mem_nil, or_false] at hd
      rcases hd with rfl | rfl | rfl
      · trivial
      · exact good_int (n := 48)
      · exact hD ms hf.l
    · have a1 : dszL ((asc n acc).map .int) ≤ 1 * (asc n acc).length := dszL_map fun x _ => by simp [dsz]
      have a2 : dszL (ms.map dM) ≤ 4 * ms.length := dszL_map fun x _ => by simp [dM, dsz, dszL]
      have a3 := asc_len (n := n) (acc := acc)
      simp only [dsz, dszL]
      omega
    · walk_at "pl_sv"
      rfl
  rintro _ rfl
  dsimp only
  walk_at "pl_sv"
  refine sv_setF (ef_call (ea_cons (ev_var rfl) ea_nil) ⟨ms, rfl, hmsl, rfl⟩) ?_
  walk_at "pl_nx"
  walk_at "pl_sv"
  let B : Sl → Sl → Sl → Sl → List Sl := fun s6 s8 s9 s10 => [.im (machD a n acc ms), .im (.int n), .im (dI acc), .im (dMs ms), .im (.lst (ws.map .str)), .ow (.lst ((asc n acc).map .int)), s6, .ow (.dt (tab ms).1 ((tab ms).2.map .int)), s8, s9, s10]
  refine sv_for (it_list (l := ws.map .str) (ev_var (i := 4) rfl)) (fun i ρ' => ∃ s6 s8 s9 s10, ρ' = B s6 s8 s9 s10) ⟨_, _, _, _, rfl⟩ ?_ ?_
  · rintro i _ hi ⟨s6, s8, s9, s10, rfl⟩
    have hi' : i < ws.length := by simpa using hi
    refine ⟨_, tg_name, ?_⟩
    rw [getD_map hi']
    show SvD K E (B s6 (.im (.str ws[i])) s9 s10) _ _
    generalize hz : ws[i] = z
    have hzl : z.length ≤ 40000 := by rw [← hz]; exact hw _ (List.getElem_mem hi')
    refine sv_for (it_range (n := n) (ev_var (i := 1) rfl) (by omega) (by omega)) (fun j ρ' => ∃ s6 s9 s10, ρ' = B s6 (.im (.str z)) s9 s10) ⟨_, _, _, rfl⟩ ?_ ?_
    · rintro j _ hj ⟨s6, s9, s10, rfl⟩
      refine ⟨_, tg_name, ?_⟩
      show SvD K E [.im (machD a n acc ms), .im (.int n), .im (dI acc), .im (dMs ms), .im (.lst (ws.map .str)), .ow (.lst ((asc n acc).map .int)), .im (.int (j : Int)), .ow (.dt (tab ms).1 ((tab ms).2.map .int)), .im (.str z), s9, s10] _ _
      walk_at "pl_sv"
      refine sv_mid (fun ρ' => ρ' = [.im (machD a n acc ms), .im (.int n), .im (dI acc), .im (dMs ms), .im (.lst (ws.map .str)), .ow (.lst ((asc n acc).map .int)), .im (.int (j : Int)), .ow (.dt (tab ms).1 ((tab ms).2.map .int)), .im (.str z), s9, s10]) ?_ ?_
      · walk_at "pl_if"
        · intro _
          walk_at "pl_sv"
          exact ⟨_, _, _, rfl⟩
        · intro _
          walk_at "pl_sv"
          rfl
      rintro _ rfl
      dsimp only
      walk_at "pl_go"
      refine sv_mid (fun ρ' => ∃ s10, ρ' = [.im (machD a n acc ms), .im (.int n), .im (dI acc), .im (dMs ms), .im (.lst (ws.map .str)), .ow (.lst ((asc n acc).map .int)), .im (.int (j : Int)), .ow (.dt (tab ms).1 ((tab ms).2.map .int)), .im (.str z), .im (.int (run (tab ms) j z)), s10]) ?_ ?_
      · refine sv_for (it_str (s := z) (ev_var (i := 8) rfl)) (fun k ρ' => ∃ s10, ρ' = [.im (machD a n acc ms), .im (.int n), .im (dI acc), .im (dMs ms), .im (.lst (ws.map .str)), .ow (.lst ((asc n acc).map .int)), .im (.int (j : Int)), .ow (.dt (tab ms).1 ((tab ms).2.map .int)), .im (.str z), .im (.int ((z.cps.toList.take k).foldl (fun h c => look (tab ms) h ⟨#[c]⟩) j)), s10]) ⟨_, rfl⟩ ?_ ?_
        · rintro k _ hk ⟨s10, rfl⟩
          refine ⟨_, tg_name, ?_⟩
          walk_at "pl_nx"
          have hk' : k < z.cps.toList.length := by simpa using hk
          have e : z.cps.toList.take (k + 1) = z.cps.toList.take k ++ [z.cps.toList[k]] := take_snoc hk'
          have e2 : z.cps.getD k 0 = z.cps.toList[k] := by simp [Array.getD, hk]
          refine sv_set (d := .int (look (tab ms) ((z.cps.toList.take k).foldl (fun h c => look (tab ms) h ⟨#[c]⟩) j) ⟨#[z.cps.getD k 0]⟩)) ?_ ?_
          · rw [← look_eq]
            refine ev_get2IS (evb_var rfl) ?_ ?_
            · walk_at "pl_ev"
            · walk_at "pl_ev"
          · refine ⟨.im (.str ⟨#[z.cps.getD k 0]⟩), ?_⟩
            walk_at "pl_nx"
            rw [e, run_snoc, e2]
        · rintro _ ⟨s10, rfl⟩
          refine ⟨s10, ?_⟩
          have : z.cps.size = z.cps.toList.length := by simp
          rw [this, List.take_length]; rfl
      rintro _ ⟨s10', rfl⟩
      dsimp only
      walk_at "pl_sv"
      have hsa : ∀ {ρ' : List Sl}, ρ'[0]? = some (.im (machD a n acc ms)) → ρ'[8]? = some (.im (.str z)) → ρ'[6]? = some (.im (.int (j : Int))) → EvD K ρ' (tMeth a.c_Machine "state_after" (spD K (R_Machine_state_after a)) [] E0 (tVar 0) (tCons (tVar 8) (tCons (tVar 6) tNil))) (.int (run (tab ms) j z)) := fun e1 e2 e3 =>
        ev_meth (ds := [.str z, .int j]) (dds := []) (ev_var e1) (ea_cons (ev_var e2) (ea_cons (ev_var e3) ea_nil)) ⟨n, acc, ms, z, j, rfl, rfl⟩
      have hsa0 : ∀ {ρ' : List Sl}, ρ'[0]? = some (.im (machD a n acc ms)) → ρ'[8]? = some (.im (.str z)) → EvD K ρ' (tMeth a.c_Machine "state_after" (spD K (R_Machine_state_after a)) [.int 0] E0 (tVar 0) (tCons (tVar 8) tNil)) (.int (run (tab ms) 0 z)) := fun e1 e2 =>
        ev_meth (ds := [.str z]) (dds := [.int 0]) (ev_var e1) (ea_cons (ev_var e2) ea_nil) ⟨n, acc, ms, z, 0, rfl, rfl⟩ (def_int def0)
      have hco : ∀ {ρ' : List Sl}, ρ'[0]? = some (.im (machD a n acc ms)) → ρ'[8]? = some (.im (.str z)) → EvD K ρ' (tOC a.c_Machine (spD K (R_Machine_callm a)) E0 (tVar 0) (tCons (tVar 8) tNil)) (.bl (decide (run (tab ms) 0 z ∈ asc n acc))) := fun e1 e2 =>
        ev_callO (ds := [.str z]) (ev_var e1) (ea_cons (ev_var e2) ea_nil) ⟨n, acc, ms, z, rfl, rfl⟩
      refine sv_mid (fun ρ' => ρ' = [.im (machD a n acc ms), .im (.int n), .im (dI acc), .im (dMs ms), .im (.lst (ws.map .str)), .ow (.lst ((asc n acc).map .int)), .im (.int (j : Int)), .ow (.dt (tab ms).1 ((tab ms).2.map .int)), .im (.str z), .im (.int (run (tab ms) j z)), s10']) ?_ ?_
      · refine sv_if (et_not (et_B (ev_call (d := .bl true) (ea_cons (hsa rfl rfl rfl) (ea_cons (ev_var rfl) ea_nil)) ⟨_, rfl, trivial, by simp [dsz], rfl⟩))) (fun hb => by cases hb) fun _ => ?_
        walk_at "pl_sv"
        rfl
      rintro _ rfl
      dsimp only
      have hmem : decide (run (tab ms) 0 z ∈ asc n acc) = decide (run (tab ms) 0 z ∈ acc) := by
        by_cases q : run (tab ms) 0 z ∈ acc
        · simp [q, asc_mem hacc]
        · simp [q, asc_mem hacc]
      by_cases hj0 : (j : Int) = 0
      · have hd : EvT K [.im (machD a n acc ms), .im (.int n), .im (dI acc), .im (dMs ms), .im (.lst (ws.map .str)), .ow (.lst ((asc n acc).map .int)), .im (.int (j : Int)), .ow (.dt (tab ms).1 ((tab ms).2.map .int)), .im (.str z), .im (.int (run (tab ms) j z)), s10'] (tNot (tB (tCall (spD K (R__law_same a)) [] E0 (tCons (tLst (tCons (tMeth a.c_Machine "state_after" (spD K (R_Machine_state_after a)) [.int 0] E0 (tVar 0) (tCons (tVar 8) (tNil))) (tCons (tOC a.c_Machine (spD K (R_Machine_callm a)) E0 (tVar 0) (tCons (tVar 8) (tNil))) (tNil)))) (tCons (tLst (tCons (tVar 9) (tCons (tOp (rInU K) (tVar 9) (tVar 2)) (tNil)))) (tNil)))))) (!true) := by
          rw [hj0]
          refine et_not (et_B (ev_call (d := .bl true) (ea_cons (EvF.im (ef_lst (ea_cons (hsa0 rfl rfl) (ea_cons (hco rfl rfl) ea_nil)) (by simp))) (ea_cons (EvF.im (ef_lst (ea_cons (ev_var rfl) (ea_cons (ev_op (EvD.b (ev_var rfl)) (EvD.b (ev_var rfl)) oi_lint) ea_nil)) (by simp))) ea_nil)) ⟨.lst [.int (run (tab ms) 0 z), .bl (decide (run (tab ms) 0 z ∈ acc))], by rw [hmem]; rfl, ?_, by simp [dsz, dszL], rfl⟩))
          intro d hd
          simp only [List.mem_cons, List.not_mem_nil, or_false] at hd
          rcases hd with rfl | rfl <;> trivial
        refine sv_if (et_and (et_test (ev_op (EvD.b (ev_var rfl)) (EvD.b ev_int) oe_int)) fun _ => hd) (fun hb => by simp at hb) fun _ => ?_
        walk_at "pl_sv"
        exact ⟨_, _, _, rfl⟩
      · have e : decide ((j : Int) = 0) = false := by simpa using hj0
        have h0 : EvT K [.im (machD a n acc ms), .im (.int n), .im (dI acc), .im (dMs ms), .im (.lst (ws.map .str)), .ow (.lst ((asc n acc).map .int)), .im (.int (j : Int)), .ow (.dt (tab ms).1 ((tab ms).2.map .int)), .im (.str z), .im (.int (run (tab ms) j z)), s10'] (tTest (tOp (rEqU K) (tVar 6) (tC (.int 0)))) false := by
          rw [← e]; exact et_test (ev_op (EvD.b (ev_var rfl)) (EvD.b ev_int) oe_int)
        refine sv_if (et_and (b := false) h0 fun q => by cases q) (fun hb => by cases hb) fun _ => ?_
        walk_at "pl_sv"
        exact ⟨_, _, _, rfl⟩
    · rintro _ ⟨s6, s9, s10, rfl⟩
      exact ⟨_, _, _, _, rfl⟩
  · rintro _ ⟨s6, s8, s9, s10, rfl⟩
    walk_at "pl_go"
    rfl
end
end K66

set_option Elab.async false
set_option linter.all false
set_option maxRecDepth 100000
set_option maxHeartbeats 1000000
namespace K66
open PySem PySem.Spec PyProof.Rows L2 PL
local macro_rules | `(tactic| walk_at "pl_len") => `(tactic| first
  | decide
  | (with_reducible assumption)
  | (simp; done)
  | omega)
local macro_rules | `(tactic| walk_at "pl_kk") => `(tactic| first
  | (with_reducible exact kk_NoneType_bool)
  | (with_reducible exact kk_NoneType_int)
  | (with_reducible exact kk_NoneType_str)
  | (with_reducible exact kk_NoneType_list)
  | (with_reducible exact kk_NoneType_tuple)
  | (with_reducible exact kk_bool_bool)
  | (with_reducible exact kk_bool_int)
  | (with_reducible exact kk_bool_str)
  | (with_reducible exact kk_bool_list)
  | (with_reducible exact kk_bool_tuple)
  | (with_reducible exact kk_int_bool)
  | (with_reducible exact kk_int_int)
  | (with_reducible exact kk_int_str)
  | (with_reducible exact kk_int_list)
  | (with_reducible exact kk_int_tuple)
  | (with_reducible exact kk_str_bool)
  | (with_reducible exact kk_str_int)
  | (with_reducible exact kk_str_str)
  | (with_reducible exact kk_str_list)
  | (with_reducible exact kk_str_tuple)
  | (with_reducible exact kk_list_bool)
  | (with_reducible exact kk_list_int)
  | (with_reducible exact kk_list_str)
  | (with_reducible exact kk_list_list)
  | (with_reducible exact kk_list_tuple)
  | (with_reducible exact kk_tuple_bool)
  | (with_reducible exact kk_tuple_int)
  | (with_reducible exact kk_tuple_str)
  | (with_reducible exact kk_tuple_list)
  | (with_reducible exact kk_tuple_tuple))
local macro_rules | `(tactic| walk_at "pl_at") => `(tactic| first
  | (with_reducible assumption)
  | assumption
  | rfl)
local macro_rules | `(tactic| walk_at "pl_side") => `(tactic| first
  | (with_reducible assumption)
  | omega
  | decide
  | (simp only [len_one]; omega))
local macro_rules | `(tactic| walk_at "pl_op") => `(tactic| first
  | (with_reducible exact oa_int)
  | (with_reducible exact om_sub)
  | (with_reducible exact om_lt)
  | (with_reducible exact om_le)
  | (with_reducible exact om_gt)
  | (with_reducible exact om_ge)
  | (with_reducible exact oe_int)
  | (with_reducible exact on_int)
  | (with_reducible exact oe_str)
  | (with_reducible exact on_str)
  | (with_reducible exact oe_bl)
  | (with_reducible exact on_bl)
  | (with_reducible exact oi_lint)
  | (with_reducible exact oi_tint)
  | (with_reducible exact oi_tstr)
  | (with_reducible exact oi_sign)
  | (with_reducible exact oni_sign)
  | (with_reducible exact oni_lint)
  | (with_reducible exact ois_non)
  | (with_reducible exact oisn_non)
  | ((with_reducible refine' om_mod ?h0); (case h0 => walk_at "pl_side"))
  | ((with_reducible refine' om_fdv ?h0 ?h1); (case h0 => walk_at "pl_side"); (case h1 => walk_at "pl_side"))
  | ((with_reducible refine' om_mulL ?h0 ?h1); (case h0 => walk_at "pl_side"); (case h1 => walk_at "pl_side"))
  | ((with_reducible refine' om_mulR ?h0 ?h1); (case h0 => walk_at "pl_side"); (case h1 => walk_at "pl_side"))
  | ((with_reducible refine' om_pow ?h0 ?h1 ?h2); (case h0 => walk_at "pl_side"); (case h1 => walk_at "pl_side"); (case h2 => walk_at "pl_side"))
  | ((with_reducible refine' ox_int ?h0 ?h1); (case h0 => walk_at "pl_side"); (case h1 => walk_at "pl_side"))
  | ((with_reducible refine' ox_scr ?h0 ?h1); (case h0 => walk_at "pl_side"); (case h1 => walk_at "pl_side"))
  | ((with_reducible refine' ox_lst ?h0); (case h0 => walk_at "pl_at"))
  | ((with_reducible refine' ox_tup ?h0); (case h0 => walk_at "pl_at"))
  | ((with_reducible refine' ox_str ?h0 ?h1); (case h0 => walk_at "pl_side"); (case h1 => walk_at "pl_at"))
  | ((with_reducible refine' oa_str ?h0); (case h0 => walk_at "pl_side"))
  | ((with_reducible refine' om_str ?h0); (case h0 => walk_at "pl_side")))
local macro_rules | `(tactic| walk_at "pl_cb") => `(tactic| first
  | (with_reducible exact c_int)
  | (with_reducible exact c_len_lst)
  | (with_reducible exact c_len_scr)
  | (with_reducible exact c_len_tup)
  | ((with_reducible refine' c_len_str ?h0); (case h0 => walk_at "pl_side"))
  | (with_reducible exact c_intB)
  | (with_reducible exact c_min)
  | (with_reducible exact c_max)
  | (with_reducible exact c_tuple))
local macro_rules | `(tactic| walk_at "pl_cf") => `(tactic| first
  | (with_reducible exact c_list)
  | (with_reducible exact c_listT))
local macro_rules | `(tactic| walk_at "pl_eab") => `(tactic| first
  | (with_reducible exact eb_nil)
  | ((with_reducible refine' eb_cons ?h0 ?h1); (case h0 => walk_at "pl_evb"); (case h1 => walk_at "pl_eab")))
local macro_rules | `(tactic| walk_at "pl_ea") => `(tactic| first
  | (with_reducible exact ea_nil)
  | ((with_reducible refine' ea_cons ?h0 ?h1); (case h0 => walk_at "pl_ev"); (case h1 => walk_at "pl_ea")))
local macro_rules | `(tactic| walk_at "pl_evb") => `(tactic| first
  | ((with_reducible refine' evb_var ?h0); (case h0 => rfl))
  | ((with_reducible refine' EvD.b ?h0); (case h0 => walk_at "pl_ev")))
local macro_rules | `(tactic| walk_at "pl_eo") => `(tactic| first
  | (with_reducible exact eo_none)
  | ((with_reducible refine' eo_some ?h0); (case h0 => walk_at "pl_ev")))
local macro_rules | `(tactic| walk_at "pl_opf") => `(tactic| first
  | ((with_reducible refine' oa_lst ?h0); (case h0 => walk_at "pl_len"))
  | ((with_reducible refine' om_rep ?h0 ?h1 ?h2); (case h0 => walk_at "pl_side"); (case h1 => walk_at "pl_side"); (case h2 => walk_at "pl_side")))
local macro_rules | `(tactic| walk_at "pl_evf") => `(tactic| first
  | (with_reducible exact ef_dnewT)
  | (with_reducible exact ef_dnewK)
  | ((with_reducible refine' ef_lst ?h0 ?h1); (case h0 => walk_at "pl_ea"); (case h1 => walk_at "pl_len"))
  | ((with_reducible refine' ef_slice ?h0 ?h1 ?h2); (case h0 => walk_at "pl_evb"); (case h1 => walk_at "pl_eo"); (case h2 => walk_at "pl_eo"))
  | ((with_reducible refine' ef_rev ?h0); (case h0 => walk_at "pl_evb"))
  | ((with_reducible refine' ef_cb ?h0 ?h1); (case h0 => walk_at "pl_eab"); (case h1 => walk_at "pl_cf"))
  | ((with_reducible refine' ev_opF ?h0 ?h1 ?h2); (case h0 => walk_at "pl_evb"); (case h1 => walk_at "pl_evb"); (case h2 => walk_at "pl_opf")))
local macro_rules | `(tactic| walk_at "pl_ev") => `(tactic| first
  | ((with_reducible refine' ev_var ?h0); (case h0 => rfl))
  | (with_reducible exact ev_int)
  | (with_reducible exact ev_str)
  | (with_reducible exact ev_bl)
  | (with_reducible exact ev_non)
  | ((with_reducible refine' ev_op ?h0 ?h1 ?h2); (case h0 => walk_at "pl_evb"); (case h1 => walk_at "pl_evb"); (case h2 => walk_at "pl_op"))
  | ((with_reducible refine' ev_cb ?h0 ?h1); (case h0 => walk_at "pl_eab"); (case h1 => walk_at "pl_cb"))
  | ((with_reducible refine' ev_isi ?h0 ?h1 ?h2); (case h0 => walk_at "pl_evb"); (case h1 => rfl); (case h2 => walk_at "pl_kk"))
  | ((with_reducible refine' ev_tup ?h0 ?h1); (case h0 => walk_at "pl_ea"); (case h1 => walk_at "pl_len"))
  | ((with_reducible refine' ev_neg ?h0); (case h0 => walk_at "pl_ev"))
  | ((with_reducible refine' ev_not ?h0); (case h0 => walk_at "pl_ev"))
  | ((with_reducible refine' ev_chain ?h0 ?h1 (fun _ => ?h2) ?h3 (fun _ => ?h4)); (case h0 => walk_at "pl_ev"); (case h1 => walk_at "pl_ev"); (case h3 => walk_at "pl_op"); (case h2 => walk_at "pl_ev"); (case h4 => walk_at "pl_op"))
  | ((with_reducible refine' ev_dinIS ?h0 ?h1); (case h0 => walk_at "pl_ev"); (case h1 => walk_at "pl_evb"))
  | ((with_reducible refine' ev_get2IS ?h0 ?h1 ?h2); (case h0 => walk_at "pl_evb"); (case h1 => walk_at "pl_ev"); (case h2 => walk_at "pl_ev"))
  | ((with_reducible refine' ev_and ?h0 ?h1); (case h0 => walk_at "pl_ev"); (case h1 => (intro hz; (try simp only [decide_eq_true_eq, decide_eq_false_iff_not] at hz); walk_at "pl_ev")))
  | ((with_reducible refine' ev_or ?h0 ?h1); (case h0 => walk_at "pl_ev"); (case h1 => (intro hz; (try simp only [decide_eq_true_eq, decide_eq_false_iff_not] at hz); walk_at "pl_ev")))
  | ((with_reducible refine' ev_sliceS ?h0 ?h1 ?h2 ?h3); (case h3 => walk_at "pl_side"); (case h0 => walk_at "pl_ev"); (case h1 => walk_at "pl_eo"); (case h2 => walk_at "pl_eo"))
  | ((with_reducible refine' EvF.im ?h0); (case h0 => walk_at "pl_evf")))
local macro_rules | `(tactic| walk_at "pl_et") => `(tactic| first
  | ((with_reducible refine' et_test ?h0); (case h0 => walk_at "pl_ev"))
  | ((with_reducible refine' et_B ?h0); (case h0 => walk_at "pl_ev"))
  | ((with_reducible refine' et_not ?h0); (case h0 => walk_at "pl_et"))
  | ((with_reducible refine' et_and ?h0 ?h1); (case h0 => walk_at "pl_et"); (case h1 => (intro hz; (try simp only [decide_eq_true_eq, decide_eq_false_iff_not] at hz); walk_at "pl_et")))
  | ((with_reducible refine' et_or ?h0 ?h1); (case h0 => walk_at "pl_et"); (case h1 => (intro hz; (try simp only [decide_eq_true_eq, decide_eq_false_iff_not] at hz); walk_at "pl_et")))
  | ((with_reducible refine' et_tru ?h0 ?h1); (case h0 => walk_at "pl_evb"); (case h1 => rfl)))
local macro_rules | `(tactic| walk_at "pl_nx") => `(tactic| simp only [List.set_cons_zero, List.set_cons_succ, Int.reduceToNat])
local macro_rules | `(tactic| walk_at "pl_sv") => `(tactic| first
  | ((with_reducible refine' sv_seq ?_))
  | ((with_reducible refine' sv_setF ?h0 ?_); (case h0 => walk_at "pl_evf"); walk_at "pl_nx")
  | ((with_reducible refine' sv_set ?h0 ?_); (case h0 => walk_at "pl_ev"); walk_at "pl_nx")
  | ((with_reducible refine' sv_app ?h0 ?h1 ?h2 ?_); (case h0 => rfl); (case h1 => walk_at "pl_ev"); (case h2 => walk_at "pl_side"); walk_at "pl_nx")
  | ((with_reducible refine' sv_dputIS ?h0 ?h1 ?h2 ?h3 ?_); (case h0 => rfl); (case h1 => walk_at "pl_ev"); (case h2 => walk_at "pl_ev"); (case h3 => walk_at "pl_side"); walk_at "pl_nx")
  | ((with_reducible refine' sv_next ?_))
  | ((with_reducible refine' sv_ret_own ?h0 ?_); (case h0 => rfl))
  | ((with_reducible refine' sv_retF ?h0 ?_); (case h0 => walk_at "pl_evf"))
  | ((with_reducible refine' sv_ret ?h0 ?_); (case h0 => walk_at "pl_ev"))
  | ((with_reducible refine' sv_cont ?_))
  | ((with_reducible refine' sv_brk ?_)))
local macro_rules | `(tactic| walk_at "pl_if") => `(tactic| ((with_reducible refine' sv_if ?h0 ?_ ?_); (case h0 => walk_at "pl_et")))
local macro_rules | `(tactic| walk_at "pl_go") => `(tactic| (repeat (walk_at "pl_sv")))

section
variable {K : PySem.W.Frag} {E : XK} {a : Adr} {ds : List D} {o : Out} {P : Sl → Prop}
theorem r__law_holds (X : Kf K a) (h : R__law_holds a ds o) : SvD K E (wr0 7 ds) (t__law_holds K a E) (De.of o) := by
  obtain ⟨n, acc, ms, ws, rfl, hf, hw, rfl⟩ := h
  show SvD K E [.im (.int n), .im (dI acc), .im (dMs ms), .im (.lst (ws.map .str)), .no, .no, .no] _ _
  unfold t__law_holds
  obtain ⟨dl, hdl⟩ : ∃ l, (moOf n acc ms).due = .lst l := by cases moOf n acc ms <;> exact ⟨_, rfl⟩
  walk_at "pl_sv"
  refine sv_setF (d := (moOf n acc ms).due) (ef_call (ea_cons (ev_var rfl) (ea_cons (ev_var rfl) (ea_cons (ev_var rfl) ea_nil))) ⟨n, acc, ms, rfl, hf, rfl⟩) ?_
  walk_at "pl_nx"
  refine sv_frz 4 rfl ?_
  walk_at "pl_nx"
  walk_at "pl_sv"
  refine sv_asg (EvD.s (EvF.im (ef_call (ea_cons (ev_var rfl) (ea_cons (ev_var rfl) (ea_cons (ev_var rfl) ea_nil))) ⟨n, acc, ms, rfl, hf, rfl⟩))) (tg_lst (tgs_cons tg_name (tgs_cons tg_name tgs_nil))) ?_
  walk_at "pl_nx"
  walk_at "pl_sv"
  have hg : good 50 (moOf n acc ms).due := by
    cases moOf n acc ms <;> (intro d hd; simp only [List.mem_cons, List.not_mem_nil, or_false] at hd; rcases hd with rfl | rfl <;> first | trivial | (show PySem.PyData.strOk _ = true; decide +kernel))
  have hs : dsz (moOf n acc ms).due < 200000 := by
    cases moOf n acc ms <;> simp [MO.due, dsz, dszL]
  refine sv_mid (fun ρ' => ρ' = [.im (.int n), .im (dI acc), .im (dMs ms), .im (.lst (ws.map .str)), .im (moOf n acc ms).due, .im (moOf n acc ms).due, .im (match moOf n acc ms with | .ok => machD a n acc ms | _ => .non)]) ?_ ?_
  · refine sv_if (et_not (et_B (ev_call (d := .bl true) (ea_cons (ev_var rfl) (ea_cons (ev_var rfl) ea_nil)) ⟨_, rfl, hg, hs, rfl⟩))) (fun hb => by cases hb) fun _ => ?_
    walk_at "pl_sv"
    rfl
  rintro _ rfl
  dsimp only
  cases hm : moOf n acc ms with
  | ok =>
    have hacc : acc.all (okSt n) = true := by
      unfold moOf at hm
      split at hm
      · cases hm
      · split at hm
        · assumption
        · cases hm
    refine sv_ret (d := .bl (decide (("machine" : Str) ≠ "machine") || true)) (ev_or (ev_op (EvD.b (ev_op (d1 := .lst [.str "machine", .int 0]) (EvD.b (ev_var rfl)) (EvD.b ev_int) (ox_lst (i := 0) rfl))) (EvD.b ev_str) on_str) fun _ => ev_call (ea_cons (ev_var rfl) (ea_cons (ev_var rfl) (ea_cons (ev_var rfl) (ea_cons (ev_var rfl) (ea_cons (ev_var rfl) ea_nil))))) ⟨n, acc, ms, ws, rfl, hf, hacc, hw, rfl⟩) ?_
    simp
    rfl
  | many =>
    refine sv_ret (d := .bl (true || true)) (ev_or (a := true) (b := true) (ev_op (d := .bl (decide (("many" : Str) ≠ "machine"))) (EvD.b (ev_op (d1 := .lst [.str "many", .int 16]) (EvD.b (ev_var rfl)) (EvD.b ev_int) (ox_lst (i := 0) rfl))) (EvD.b ev_str) on_str) fun hb => ?_) ?_
    · cases hb
    · rfl
  | bad i =>
    refine sv_ret (d := .bl (true || true)) (ev_or (a := true) (b := true) (ev_op (d := .bl (decide (("bad" : Str) ≠ "machine"))) (EvD.b (ev_op (d1 := .lst [.str "bad", .int i]) (EvD.b (ev_var rfl)) (EvD.b ev_int) (ox_lst (i := 0) rfl))) (EvD.b ev_str) on_str) fun hb => ?_) ?_
    · cases hb
    · rfl
end
end K66

set_option Elab.async false
set_option linter.all false
set_option maxRecDepth 100000
set_option maxHeartbeats 1000000
namespace K66
open PySem PySem.Spec PyProof.Rows L2 PL
local macro_rules | `(tactic| walk_at "pl_len") => `(tactic| first
  | decide
  | (with_reducible assumption)
  | (simp; done)
  | omega)
local macro_rules | `(tactic| walk_at "pl_kk") => `(tactic| first
  | (with_reducible exact kk_NoneType_bool)
  | (with_reducible exact kk_NoneType_int)
  | (with_reducible exact kk_NoneType_str)
  | (with_reducible exact kk_NoneType_list)
  | (with_reducible exact kk_NoneType_tuple)
  | (with_reducible exact kk_bool_bool)
  | (with_reducible exact kk_bool_int)
  | (with_reducible exact kk_bool_str)
  | (with_reducible exact kk_bool_list)
  | (with_reducible exact kk_bool_tuple)
  | (with_reducible exact kk_int_bool)
  | (with_reducible exact kk_int_int)
  | (with_reducible exact kk_int_str)
  | (with_reducible exact kk_int_list)
  | (with_reducible exact kk_int_tuple)
  | (with_reducible exact kk_str_bool)
  | (with_reducible exact kk_str_int)
  | (with_reducible exact kk_str_str)
  | (with_reducible exact kk_str_list)
  | (with_reducible exact kk_str_tuple)
  | (with_reducible exact kk_list_bool)
  | (with_reducible exact kk_list_int)
  | (with_reducible exact kk_list_str)
  | (with_reducible exact kk_list_list)
  | (with_reducible exact kk_list_tuple)
  | (with_reducible exact kk_tuple_bool)
  | (with_reducible exact kk_tuple_int)
  | (with_reducible exact kk_tuple_str)
  | (with_reducible exact kk_tuple_list)
  | (with_reducible exact kk_tuple_tuple))
local macro_rules | `(tactic| walk_at "pl_at") => `(tactic| first
  | (with_reducible assumption)
  | assumption
  | rfl)
local macro_rules | `(tactic| walk_at "pl_side") => `(tactic| first
  | (with_reducible assumption)
  | omega
  | decide
  | (simp only [len_one]; omega))
local macro_rules | `(tactic| walk_at "pl_op") => `(tactic| first
  | (with_reducible exact oa_int)
  | (with_reducible exact om_sub)
  | (with_reducible exact om_lt)
  | (with_reducible exact om_le)
  | (with_reducible exact om_gt)
  | (with_reducible exact om_ge)
  | (with_reducible exact oe_int)
  | (with_reducible exact on_int)
  | (with_reducible exact oe_str)
  | (with_reducible exact on_str)
  | (with_reducible exact oe_bl)
  | (with_reducible exact on_bl)
  | (with_reducible exact oi_lint)
  | (with_reducible exact oi_tint)
  | (with_reducible exact oi_tstr)
  | (with_reducible exact oi_sign)
  | (with_reducible exact oni_sign)
  | (with_reducible exact oni_lint)
  | (with_reducible exact ois_non)
  | (with_reducible exact oisn_non)
  | ((with_reducible refine' om_mod ?h0); (case h0 => walk_at "pl_side"))
  | ((with_reducible refine' om_fdv ?h0 ?h1); (case h0 => walk_at "pl_side"); (case h1 => walk_at "pl_side"))
  | ((with_reducible refine' om_mulL ?h0 ?h1); (case h0 => walk_at "pl_side"); (case h1 => walk_at "pl_side"))
  | ((with_reducible refine' om_mulR ?h0 ?h1); (case h0 => walk_at "pl_side"); (case h1 => walk_at "pl_side"))
  | ((with_reducible refine' om_pow ?h0 ?h1 ?h2); (case h0 => walk_at "pl_side"); (case h1 => walk_at "pl_side"); (case h2 => walk_at "pl_side"))
  | ((with_reducible refine' ox_int ?h0 ?h1); (case h0 => walk_at "pl_side"); (case h1 => walk_at "pl_side"))
  | ((with_reducible refine' ox_scr ?h0 ?h1); (case h0 => walk_at "pl_side"); (case h1 => walk_at "pl_side"))
  | ((with_reducible refine' ox_lst ?h0); (case h0 => walk_at "pl_at"))
  | ((with_reducible refine' ox_tup ?h0); (case h0 => walk_at "pl_at"))
  | ((with_reducible refine' ox_str ?h0 ?h1); (case h0 => walk_at "pl_side"); (case h1 => walk_at "pl_at"))
  | ((with_reducible refine' oa_str ?h0); (case h0 => walk_at "pl_side"))
  | ((with_reducible refine' om_str ?h0); (case h0 => walk_at "pl_side")))
local macro_rules | `(tactic| walk_at "pl_cb") => `(tactic| first
  | (with_reducible exact c_int)
  | (with_reducible exact c_len_lst)
  | (with_reducible exact c_len_scr)
  | (with_reducible exact c_len_tup)
  | ((with_reducible refine' c_len_str ?h0); (case h0 => walk_at "pl_side"))
  | (with_reducible exact c_intB)
  | (with_reducible exact c_min)
  | (with_reducible exact c_max)
  | (with_reducible exact c_tuple))
local macro_rules | `(tactic| walk_at "pl_cf") => `(tactic| first
  | (with_reducible exact c_list)
  | (with_reducible exact c_listT))
local macro_rules | `(tactic| walk_at "pl_eab") => `(tactic| first
  | (with_reducible exact eb_nil)
  | ((with_reducible refine' eb_cons ?h0 ?h1); (case h0 => walk_at "pl_evb"); (case h1 => walk_at "pl_eab")))
local macro_rules | `(tactic| walk_at "pl_ea") => `(tactic| first
  | (with_reducible exact ea_nil)
  | ((with_reducible refine' ea_cons ?h0 ?h1); (case h0 => walk_at "pl_ev"); (case h1 => walk_at "pl_ea")))
local macro_rules | `(tactic| walk_at "pl_evb") => `(tactic| first
  | ((with_reducible refine' evb_var ?h0); (case h0 => rfl))
  | ((with_reducible refine' EvD.b ?h0); (case h0 => walk_at "pl_ev")))
local macro_rules | `(tactic| walk_at "pl_eo") => `(tactic| first
  | (with_reducible exact eo_none)
  | ((with_reducible refine' eo_some ?h0); (case h0 => walk_at "pl_ev")))
local macro_rules | `(tactic| walk_at "pl_opf") => `(tactic| first
  | ((with_reducible refine' oa_lst ?h0); (case h0 => walk_at "pl_len"))
  | ((with_reducible refine' om_rep ?h0 ?h1 ?h2); (case h0 => walk_at "pl_side"); (case h1 => walk_at "pl_side"); (case h2 => walk_at "pl_side")))
local macro_rules | `(tactic| walk_at "pl_evf") => `(tactic| first
  | (with_reducible exact ef_dnewT)
  | (with_reducible exact ef_dnewK)
  | ((with_reducible refine' ef_lst ?h0 ?h1); (case h0 => walk_at "pl_ea"); (case h1 => walk_at "pl_len"))
  | ((with_reducible refine' ef_slice ?h0 ?h1 ?h2); (case h0 => walk_at "pl_evb"); (case h1 => walk_at "pl_eo"); (case h2 => walk_at "pl_eo"))
  | ((with_reducible refine' ef_rev ?h0); (case h0 => walk_at "pl_evb"))
  | ((with_reducible refine' ef_cb ?h0 ?h1); (case h0 => walk_at "pl_eab"); (case h1 => walk_at "pl_cf"))
  | ((with_reducible refine' ev_opF ?h0 ?h1 ?h2); (case h0 => walk_at "pl_evb"); (case h1 => walk_at "pl_evb"); (case h2 => walk_at "pl_opf")))
local macro_rules | `(tactic| walk_at "pl_ev") => `(tactic| first
  | ((with_reducible refine' ev_var ?h0); (case h0 => rfl))
  | (with_reducible exact ev_int)
  | (with_reducible exact ev_str)
  | (with_reducible exact ev_bl)
  | (with_reducible exact ev_non)
  | ((with_reducible refine' ev_op ?h0 ?h1 ?h2); (case h0 => walk_at "pl_evb"); (case h1 => walk_at "pl_evb"); (case h2 => walk_at "pl_op"))
  | ((with_reducible refine' ev_cb ?h0 ?h1); (case h0 => walk_at "pl_eab"); (case h1 => walk_at "pl_cb"))
  | ((with_reducible refine' ev_isi ?h0 ?h1 ?h2); (case h0 => walk_at "pl_evb"); (case h1 => rfl); (case h2 => walk_at "pl_kk"))
  | ((with_reducible refine' ev_tup ?h0 ?h1); (case h0 => walk_at "pl_ea"); (case h1 => walk_at "pl_len"))
  | ((with_reducible refine' ev_neg ?h0); (case h0 => walk_at "pl_ev"))
  | ((with_reducible refine' ev_not ?h0); (case h0 => walk_at "pl_ev"))
  | ((with_reducible refine' ev_chain ?h0 ?h1 (fun _ => ?h2) ?h3 (fun _ => ?h4)); (case h0 => walk_at "pl_ev"); (case h1 => walk_at "pl_ev"); (case h3 => walk_at "pl_op"); (case h2 => walk_at "pl_ev"); (case h4 => walk_at "pl_op"))
  | ((with_reducible refine' ev_dinIS ?h0 ?h1); (case h0 => walk_at "pl_ev"); (case h1 => walk_at "pl_evb"))
  | ((with_reducible refine' ev_get2IS ?h0 ?h1 ?h2); (case h0 => walk_at "pl_evb"); (case h1 => walk_at "pl_ev"); (case h2 => walk_at "pl_ev"))
  | ((with_reducible refine' ev_and ?h0 ?h1); (case h0 => walk_at "pl_ev"); (case h1 => (intro hz; (try simp only [decide_eq_true_eq, decide_eq_false_iff_not] at hz); walk_at "pl_ev")))
  | ((with_reducible refine' ev_or ?h0 ?h1); (case h0 => walk_at "pl_ev"); (case h1 => (intro hz; (try simp only [decide_eq_true_eq, decide_eq_false_iff_not] at hz); walk_at "pl_ev")))
  | ((with_reducible refine' ev_sliceS ?h0 ?h1 ?h2 ?h3); (case h3 => walk_at "pl_side"); (case h0 => walk_at "pl_ev"); (case h1 => walk_at "pl_eo"); (case h2 => walk_at "pl_eo"))
  | ((with_reducible refine' EvF.im ?h0); (case h0 => walk_at "pl_evf")))
local macro_rules | `(tactic| walk_at "pl_et") => `(tactic| first
  | ((with_reducible refine' et_test ?h0); (case h0 => walk_at "pl_ev"))
  | ((with_reducible refine' et_B ?h0); (case h0 => walk_at "pl_ev"))
  | ((with_reducible refine' et_not ?h0); (case h0 => walk_at "pl_et"))
  | ((with_reducible refine' et_and ?h0 ?h1); (case h0 => walk_at "pl_et"); (case h1 => (intro hz; (try simp only [decide_eq_true_eq, decide_eq_false_iff_not] at hz); walk_at "pl_et")))
  | ((with_reducible refine' et_or ?h0 ?h1); (case h0 => walk_at "pl_et"); (case h1 => (intro hz; (try simp only [decide_eq_true_eq, decide_eq_false_iff_not] at hz); walk_at "pl_et")))
  | ((with_reducible refine' et_tru ?h0 ?h1); (case h0 => walk_at "pl_evb"); (case h1 => rfl)))
local macro_rules | `(tactic| walk_at "pl_nx") => `(tactic| simp only [List.set_cons_zero, List.set_cons_succ, Int.reduceToNat])
local macro_rules | `(tactic| walk_at "pl_sv") => `(tactic| first
  | ((with_reducible refine' sv_seq ?_))
  | ((with_reducible refine' sv_setF ?h0 ?_); (case h0 => walk_at "pl_evf"); walk_at "pl_nx")
  | ((with_reducible refine' sv_set ?h0 ?_); (case h0 => walk_at "pl_ev"); walk_at "pl_nx")
  | ((with_reducible refine' sv_app ?h0 ?h1 ?h2 ?_); (case h0 => rfl); (case h1 => walk_at "pl_ev"); (case h2 => walk_at "pl_side"); walk_at "pl_nx")
  | ((with_reducible refine' sv_dputIS ?h0 ?h1 ?h2 ?h3 ?_); (case h0 => rfl); (case h1 => walk_at "pl_ev"); (case h2 => walk_at "pl_ev"); (case h3 => walk_at "pl_side"); walk_at "pl_nx")
  | ((with_reducible refine' sv_next ?_))
  | ((with_reducible refine' sv_ret_own ?h0 ?_); (case h0 => rfl))
  | ((with_reducible refine' sv_retF ?h0 ?_); (case h0 => walk_at "pl_evf"))
  | ((with_reducible refine' sv_ret ?h0 ?_); (case h0 => walk_at "pl_ev"))
  | ((with_reducible refine' sv_cont ?_))
  | ((with_reducible refine' sv_brk ?_)))
local macro_rules | `(tactic| walk_at "pl_if") => `(tactic| ((with_reducible refine' sv_if ?h0 ?_ ?_); (case h0 => walk_at "pl_et")))
local macro_rules | `(tactic| walk_at "pl_go") => `(tactic| (repeat (walk_at "pl_sv")))

section
variable {K : PySem.W.Frag} {E : XK} {a : Adr} {ds : List D} {o : Out} {P : Sl → Prop}
theorem cutD_map {α : Type} {f : α → D} {l : List α} {lo hi : Option Int} : PL.cutD (l.map f) lo hi = (PL.cutD l lo hi).map f := by
  unfold PL.cutD; simp [List.map_take, List.map_drop]
theorem cut_take {α : Type} {l : List α} {p : Int} (h0 : 0 ≤ p) (h1 : p ≤ l.length) : PL.cutD l none (some p) = l.take p.toNat := by
  unfold PL.cutD
  show (l.drop 0).take ((if p < 0 then _ else min p.toNat l.length) - 0) = _
  rw [if_neg (by omega), Nat.min_eq_left (by omega)]; simp
theorem cut_drop {α : Type} {l : List α} {p : Int} (h0 : 0 ≤ p) (h1 : p ≤ l.length) : PL.cutD l (some p) none = l.drop p.toNat := by
  unfold PL.cutD
  show (l.drop (if p < 0 then _ else min p.toNat l.length)).take (l.length - (if p < 0 then _ else min p.toNat l.length)) = _
  rw [if_neg (by omega), Nat.min_eq_left (by omega)]
  exact List.take_of_length_le (by simp)
theorem row_at {row : List Int} {k i : Nat} (R : Row row k) (h : i < k) : 0 ≤ row.getD i 0 ∧ row.getD i 0 < 997 := by
  have hl := R.len
  have hi : i < row.length := by omega
  have : row.getD i 0 = row[i] := by simp [List.getD, hi]
  rw [this]; exact R.ok _ (List.getElem_mem hi)
theorem row_any {row : List Int} {k : Nat} (R : Row row k) {i : Nat} (hi : i < row.length) : 0 ≤ row.getD i 0 ∧ row.getD i 0 < 997 := by
  have : row.getD i 0 = row[i] := by simp [List.getD, hi]
  rw [this]; exact R.ok _ (List.getElem_mem hi)
def let_ (i : Int) : Nat := abc.cps.toList.getD i.toNat 0
theorem abc_len : abc.cps.toList.length = 26 := by decide +kernel
theorem abc_length : abc.length = 26 := by decide +kernel
theorem abc_at {i : Int} (h0 : 0 ≤ i) (h1 : i < 26) : atI abc.cps.toList i = some (let_ i) := by
  have hi : i.toNat < abc.cps.toList.length := by rw [abc_len]; omega
  rw [atI_nn h0 (by rw [abc_len]; omega), List.getElem?_eq_getElem hi]
  unfold let_; rw [List.getD_eq_getElem?_getD, List.getElem?_eq_getElem hi]; rfl
theorem abc_small : ∀ c ∈ abc.cps.toList, c < 128 := by decide +kernel
theorem let_mem {i : Int} (h0 : 0 ≤ i) (h1 : i < 26) : let_ i ∈ abc.cps.toList := by
  have hi : i.toNat < abc.cps.toList.length := by rw [abc_len]; omega
  unfold let_
  have : abc.cps.toList.getD i.toNat 0 = abc.cps.toList[i.toNat] := by rw [List.getD_eq_getElem?_getD, List.getElem?_eq_getElem hi]; rfl
  rw [this]; exact List.getElem_mem hi
theorem strOk_of {z : Str} (h : ∀ c ∈ z.cps.toList, c < 128) : PySem.PyData.strOk z = true := by
  unfold PySem.PyData.strOk
  rw [Array.all_eq_true]
  intro i hi
  have := h z.cps[i] (by simp)
  simp; omega
theorem okS_let {i : Int} (h0 : 0 ≤ i) (h1 : i < 26) : okS ⟨#[let_ i]⟩ := ⟨by show 1 ≤ 30; decide, strOk_of fun c hc => by
  have : c = let_ i := by simpa using hc
  rw [this]; exact abc_small _ (let_mem h0 h1)⟩
theorem okS_two {i : Int} (h0 : 0 ≤ i) (h1 : i < 26) : okS ((⟨#[let_ i]⟩ : Str) ++ ⟨#[let_ i]⟩) := ⟨by show 2 ≤ 30; decide, strOk_of fun c hc => by
  have : c = let_ i := by
    have h : c ∈ (#[let_ i] ++ #[let_ i] : Array Nat).toList := hc
    simpa using h
  rw [this]; exact abc_small _ (let_mem h0 h1)⟩
theorem cutS_list (z : Str) (lo hi : Option Int) : (cutS z lo hi).cps.toList = (z.cps.toList.drop (HT.sIx z.length 0 lo)).take (HT.sIx z.length z.length hi - HT.sIx z.length 0 lo) := by unfold cutS; simp
theorem okS_cut {lo hi : Option Int} : okS (cutS abc lo hi) := by
  refine ⟨?_, strOk_of fun c hc => abc_small c ?_⟩
  · have h : (cutS abc lo hi).length = (cutS abc lo hi).cps.toList.length := by simp; rfl
    rw [h, cutS_list, List.length_take, List.length_drop, abc_len]; omega
  · rw [cutS_list] at hc
    exact List.mem_of_mem_drop (List.mem_of_mem_take hc)
def waysOf (n s : Int) (l p : Str) : List Mv := [(-1, l, s), (n, l, s), (s, l, n), (s, l, -1), (s, "", s), (s, p, s), (s, l ++ l, s), (s, "A", s), (s, " ", s), (s, "{", s), (s, "`", s)]
theorem r__law_spoilt (X : Kf K a) (h : R__law_spoilt a ds P) : SvD K E (wr0 11 ds) (t__law_spoilt K a E) (De.ofQ P) := by
  obtain ⟨ms, n, row, rfl, hR, hn1, hn2, hms, hl, rfl⟩ := h
  show SvD K E [.im (dMs ms), .im (.int n), .im (dI row), .no, .no, .no, .no, .no, .no, .no, .no] _ _
  unfold t__law_spoilt
  have hlen := hR.len
  have g0 := row_at hR (i := 0) (by omega)
  have g1 := row_at hR (i := 1) (by omega)
  have g2 := row_at hR (i := 2) (by omega)
  have g3 := row_at hR (i := 3) (by omega)
  have g4 := row_at hR (i := 4) (by omega)
  have hat : atI abc.cps.toList (row.getD 1 0 % 26) = some (let_ (row.getD 1 0 % 26)) := abc_at (by omega) (by omega)
  have hlen0 : (abc : Str).length ≤ 16777216 := by rw [abc_length]; decide
  have hle : (List.map dM ms).length = ms.length := List.length_map ..
  have hP0 : 0 ≤ row.getD 0 0 % (((List.map dM ms).length : Int) + 1) := Int.emod_nonneg _ (by omega)
  have hP1 : row.getD 0 0 % (((List.map dM ms).length : Int) + 1) < ((List.map dM ms).length : Int) + 1 := Int.emod_lt_of_pos _ (by omega)
  have h11 : ({ cps := #[let_ (row.getD 1 0 % 26)] } : Str).length + ({ cps := #[let_ (row.getD 1 0 % 26)] } : Str).length ≤ 16777216 := by show 1 + 1 ≤ 16777216; decide
  walk_at "pl_go"
  let wl := waysOf n (row.getD 2 0 % n) ⟨#[let_ (row.getD 1 0 % 26)]⟩ (cutS abc (some (row.getD 1 0 % 25)) (some (row.getD 1 0 % 25 + 2)))
  have hwll : wl.length = 11 := rfl
  have hwok : ∀ m ∈ wl, okS m.2.1 := fun m hm => by
    have e1 : okS ("" : Str) := ⟨by decide +kernel, by decide +kernel⟩
    have e2 : okS ("A" : Str) := ⟨by decide +kernel, by decide +kernel⟩
    have e3 : okS (" " : Str) := ⟨by decide +kernel, by decide +kernel⟩
    have e4 : okS ("{" : Str) := ⟨by decide +kernel, by decide +kernel⟩
    have e5 : okS ("`" : Str) := ⟨by decide +kernel, by decide +kernel⟩
    have e6 : okS ⟨#[let_ (row.getD 1 0 % 26)]⟩ := okS_let (by omega) (by omega)
    have e7 := okS_two (i := row.getD 1 0 % 26) (by omega) (by omega)
    simp only [wl, waysOf, List.mem_cons, List.not_mem_nil, or_false] at hm
    rcases hm with rfl | rfl | rfl | rfl | rfl | rfl | rfl | rfl | rfl | rfl | rfl
    · exact e6
    · exact e6
    · exact e6
    · exact e6
    · exact e1
    · exact okS_cut
    · exact e7
    · exact e2
    · exact e3
    · exact e4
    · exact e5
  have hk : (row.getD 3 0 % 15 % 11).toNat < wl.length := by rw [hwll]; omega
  refine sv_set (d := dM wl[(row.getD 3 0 % 15 % 11).toNat]) (ev_op (evb_var (d := dMs wl) rfl) (EvD.b ?hq) (ox_lst (atI_map (by omega) (by rw [hwll]; omega)))) ?_
  case hq => walk_at "pl_ev"
  walk_at "pl_nx"
  have hbad := hwok _ (List.getElem_mem hk)
  generalize wl[(row.getD 3 0 % 15 % 11).toNat] = m0 at hbad ⊢
  walk_at "pl_sv"
  refine sv_mid (fun ρ' => ∃ (m : Mv) (s6 s7 s8 s10 : Sl), okS m.2.1 ∧ ρ' = [.im (dMs ms), .im (.int n), .im (dI row), .im (.int (row.getD 0 0 % ((List.map dM ms).length + 1))), .im (.str ⟨#[let_ (row.getD 1 0 % 26)]⟩), .im (.int (row.getD 2 0 % n)), s6, s7, s8, .im (dM m), s10]) ?_ ?_
  · walk_at "pl_if"
    · intro hb
      simp only [Bool.and_eq_true, decide_eq_true_eq] at hb
      have hp := hb.2
      have hpl : row.getD 0 0 % ((List.map dM ms).length + 1) ≤ ms.length := by omega
      have h40 := Int.emod_nonneg (row.getD 4 0) (b := row.getD 0 0 % ((List.map dM ms).length + 1)) (by omega)
      have h41 := Int.emod_lt_of_pos (row.getD 4 0) (b := row.getD 0 0 % ((List.map dM ms).length + 1)) (by omega)
      walk_at "pl_sv"
      have hke : (row.getD 4 0 % (row.getD 0 0 % ((List.map dM ms).length + 1))).toNat < ms.length := by omega
      refine sv_set (d := dM ms[(row.getD 4 0 % (row.getD 0 0 % ((List.map dM ms).length + 1))).toNat]) (ev_op (EvD.b (ev_var rfl)) (EvD.b ?hq2) (ox_lst (atI_map (by omega) (by omega)))) ?_
      case hq2 =>
        change EvD K _ _ (.int (row.getD (Int.toNat 4) 0 % _))
        walk_at "pl_ev"
      walk_at "pl_nx"
      have hme := hl _ (List.getElem_mem hke)
      generalize ms[(row.getD 4 0 % (row.getD 0 0 % ((List.map dM ms).length + 1))).toNat] = me at hme ⊢
      by_cases h2 : row.getD 3 0 % 15 % 2 = 0
      · refine sv_set (d := dM (me.1, me.2.1, row.getD 2 0 % n)) (ev_tup (ea_cons (ev_op (d1 := dM me) (d2 := .int 0) (EvD.b (ev_var rfl)) (EvD.b ev_int) (ox_tup rfl)) (ea_cons (ev_op (d1 := dM me) (d2 := .int 1) (EvD.b (ev_var rfl)) (EvD.b ev_int) (ox_tup rfl)) (ea_cons (ev_op (d1 := .lst [.int (row.getD 2 0 % n), .int me.2.2]) (d2 := .int (row.getD 3 0 % 15 % 2)) (EvD.b (EvF.im (ef_lst (ea_cons (ev_var rfl) (ea_cons (ev_op (d1 := dM me) (d2 := .int 2) (EvD.b (ev_var rfl)) (EvD.b ev_int) (ox_tup rfl)) ea_nil)) (by simp)))) (EvD.b ?hq3) (ox_lst (by rw [h2]; rfl))) ea_nil))) (by simp)) ?_
        case hq3 => walk_at "pl_ev"
        walk_at "pl_nx"
        exact ⟨(me.1, me.2.1, row.getD 2 0 % n), _, _, _, _, hme, rfl⟩
      · have h21 : row.getD 3 0 % 15 % 2 = 1 := by omega
        refine sv_set (d := dM (me.1, me.2.1, me.2.2)) (ev_tup (ea_cons (ev_op (d1 := dM me) (d2 := .int 0) (EvD.b (ev_var rfl)) (EvD.b ev_int) (ox_tup rfl)) (ea_cons (ev_op (d1 := dM me) (d2 := .int 1) (EvD.b (ev_var rfl)) (EvD.b ev_int) (ox_tup rfl)) (ea_cons (ev_op (d1 := .lst [.int (row.getD 2 0 % n), .int me.2.2]) (d2 := .int (row.getD 3 0 % 15 % 2)) (EvD.b (EvF.im (ef_lst (ea_cons (ev_var rfl) (ea_cons (ev_op (d1 := dM me) (d2 := .int 2) (EvD.b (ev_var rfl)) (EvD.b ev_int) (ox_tup rfl)) ea_nil)) (by simp)))) (EvD.b ?hq3) (ox_lst (by rw [h21]; rfl))) ea_nil))) (by simp)) ?_
        case hq3 => walk_at "pl_ev"
        walk_at "pl_nx"
        exact ⟨(me.1, me.2.1, me.2.2), _, _, _, _, hme, rfl⟩
    · intro _
      walk_at "pl_sv"
      exact ⟨_, _, _, _, _, hbad, rfl⟩
  rintro _ ⟨m, s6, s7, s8, s10, hm, rfl⟩
  dsimp only
  have hp0 : 0 ≤ row.getD 0 0 % ((List.map dM ms).length + 1) := by omega
  have hp1 : row.getD 0 0 % ((List.map dM ms).length + 1) ≤ ms.length := by omega
  generalize row.getD 0 0 % ((List.map dM ms).length + 1) = p at hp0 hp1 ⊢
  refine sv_retF (ev_opF (EvD.b (EvF.im (ev_opF (EvD.b (EvF.im (ef_slice (EvD.b (ev_var rfl)) eo_none (eo_some (ev_var rfl))))) (EvD.b (EvF.im (ef_lst (ea_cons (ev_var rfl) ea_nil) (by simp)))) (oa_lst ?_)))) (EvD.b (EvF.im (ef_slice (EvD.b (ev_var rfl)) (eo_some (ev_var rfl)) eo_none))) (oa_lst ?_)) ?_
  · rw [cutD_map, cut_take hp0 hp1]; simp; omega
  · rw [cutD_map, cutD_map, cut_take hp0 hp1, cut_drop hp0 hp1]; simp; omega
  · refine ⟨ms.take p.toNat ++ [m] ++ ms.drop p.toNat, ?_, by simp; omega, fun q hq => ?_⟩
    · rw [cutD_map, cutD_map, cut_take hp0 hp1, cut_drop hp0 hp1]
      unfold dMs
      simp only [List.map_append, List.map_cons, List.map_nil]
    · simp only [List.mem_append, List.mem_singleton] at hq
      rcases hq with (hq | rfl) | hq
      · exact hl _ (List.mem_of_mem_take hq)
      · exact hm
      · exact hl _ (List.mem_of_mem_drop hq)
end
end K66

set_option Elab.async false
set_option linter.all false
set_option maxRecDepth 100000
set_option maxHeartbeats 1000000
namespace K66
open PySem PySem.Spec PyProof.Rows L2 PL
local macro_rules | `(tactic| walk_at "pl_len") => `(tactic| first
  | decide
  | (with_reducible assumption)
  | (simp; done)
  | omega)
local macro_rules | `(tactic| walk_at "pl_kk") => `(tactic| first
  | (with_reducible exact kk_NoneType_bool)
  | (with_reducible exact kk_NoneType_int)
  | (with_reducible exact kk_NoneType_str)
  | (with_reducible exact kk_NoneType_list)
  | (with_reducible exact kk_NoneType_tuple)
  | (with_reducible exact kk_bool_bool)
  | (with_reducible exact kk_bool_int)
  | (with_reducible exact kk_bool_str)
  | (with_reducible exact kk_bool_list)
  | (with_reducible exact kk_bool_tuple)
  | (with_reducible exact kk_int_bool)
  | (with_reducible exact kk_int_int)
  | (with_reducible exact kk_int_str)
  | (with_reducible exact kk_int_list)
  | (with_reducible exact kk_int_tuple)
  | (with_reducible exact kk_str_bool)
  | (with_reducible exact kk_str_int)
  | (with_reducible exact kk_str_str)
  | (with_reducible exact kk_str_list)
  | (with_reducible exact kk_str_tuple)
  | (with_reducible exact kk_list_bool)
  | (with_reducible exact kk_list_int)
  | (with_reducible exact kk_list_str)
  | (with_reducible exact kk_list_list)
  | (with_reducible exact kk_list_tuple)
  | (with_reducible exact kk_tuple_bool)
  | (with_reducible exact kk_tuple_int)
  | (with_reducible exact kk_tuple_str)
  | (with_reducible exact kk_tuple_list)
  | (with_reducible exact kk_tuple_tuple))
local macro_rules | `(tactic| walk_at "pl_at") => `(tactic| first
  | (with_reducible assumption)
  | assumption
  | rfl)
local macro_rules | `(tactic| walk_at "pl_side") => `(tactic| first
  | (with_reducible assumption)
  | omega
  | decide
  | (simp only [len_one]; omega))
local macro_rules | `(tactic| walk_at "pl_op") => `(tactic| first
  | (with_reducible exact oa_int)
  | (with_reducible exact om_sub)
  | (with_reducible exact om_lt)
  | (with_reducible exact om_le)
  | (with_reducible exact om_gt)
  | (with_reducible exact om_ge)
  | (with_reducible exact oe_int)
  | (with_reducible exact on_int)
  | (with_reducible exact oe_str)
  | (with_reducible exact on_str)
  | (with_reducible exact oe_bl)
  | (with_reducible exact on_bl)
  | (with_reducible exact oi_lint)
  | (with_reducible exact oi_tint)
  | (with_reducible exact oi_tstr)
  | (with_reducible exact oi_sign)
  | (with_reducible exact oni_sign)
  | (with_reducible exact oni_lint)
  | (with_reducible exact ois_non)
  | (with_reducible exact oisn_non)
  | ((with_reducible refine' om_mod ?h0); (case h0 => walk_at "pl_side"))
  | ((with_reducible refine' om_fdv ?h0 ?h1); (case h0 => walk_at "pl_side"); (case h1 => walk_at "pl_side"))
  | ((with_reducible refine' om_mulL ?h0 ?h1); (case h0 => walk_at "pl_side"); (case h1 => walk_at "pl_side"))
  | ((with_reducible refine' om_mulR ?h0 ?h1); (case h0 => walk_at "pl_side"); (case h1 => walk_at "pl_side"))
  | ((with_reducible refine' om_pow ?h0 ?h1 ?h2); (case h0 => walk_at "pl_side"); (case h1 => walk_at "pl_side"); (case h2 => walk_at "pl_side"))
  | ((with_reducible refine' ox_int ?h0 ?h1); (case h0 => walk_at "pl_side"); (case h1 => walk_at "pl_side"))
  | ((with_reducible refine' ox_scr ?h0 ?h1); (case h0 => walk_at "pl_side"); (case h1 => walk_at "pl_side"))
  | ((with_reducible refine' ox_lst ?h0); (case h0 => walk_at "pl_at"))
  | ((with_reducible refine' ox_tup ?h0); (case h0 => walk_at "pl_at"))
  | ((with_reducible refine' ox_str ?h0 ?h1); (case h0 => walk_at "pl_side"); (case h1 => walk_at "pl_at"))
  | ((with_reducible refine' oa_str ?h0); (case h0 => walk_at "pl_side"))
  | ((with_reducible refine' om_str ?h0); (case h0 => walk_at "pl_side")))
local macro_rules | `(tactic| walk_at "pl_cb") => `(tactic| first
  | (with_reducible exact c_int)
  | (with_reducible exact c_len_lst)
  | (with_reducible exact c_len_scr)
  | (with_reducible exact c_len_tup)
  | ((with_reducible refine' c_len_str ?h0); (case h0 => walk_at "pl_side"))
  | (with_reducible exact c_intB)
  | (with_reducible exact c_min)
  | (with_reducible exact c_max)
  | (with_reducible exact c_tuple))
local macro_rules | `(tactic| walk_at "pl_cf") => `(tactic| first
  | (with_reducible exact c_list)
  | (with_reducible exact c_listT))
local macro_rules | `(tactic| walk_at "pl_eab") => `(tactic| first
  | (with_reducible exact eb_nil)
  | ((with_reducible refine' eb_cons ?h0 ?h1); (case h0 => walk_at "pl_evb"); (case h1 => walk_at "pl_eab")))
local macro_rules | `(tactic| walk_at "pl_ea") => `(tactic| first
  | (with_reducible exact ea_nil)
  | ((with_reducible refine' ea_cons ?h0 ?h1); (case h0 => walk_at "pl_ev"); (case h1 => walk_at "pl_ea")))
local macro_rules | `(tactic| walk_at "pl_evb") => `(tactic| first
  | ((with_reducible refine' evb_var ?h0); (case h0 => rfl))
  | ((with_reducible refine' EvD.b ?h0); (case h0 => walk_at "pl_ev")))
local macro_rules | `(tactic| walk_at "pl_eo") => `(tactic| first
  | (with_reducible exact eo_none)
  | ((with_reducible refine' eo_some ?h0); (case h0 => walk_at "pl_ev")))
local macro_rules | `(tactic| walk_at "pl_opf") => `(tactic| first
  | ((with_reducible refine' oa_lst ?h0); (case h0 => walk_at "pl_len"))
  | ((with_reducible refine' om_rep ?h0 ?h1 ?h2); (case h0 => walk_at "pl_side"); (case h1 => walk_at "pl_side"); (case h2 => walk_at "pl_side")))
local macro_rules | `(tactic| walk_at "pl_evf") => `(tactic| first
  | (with_reducible exact ef_dnewT)
  | (with_reducible exact ef_dnewK)
  | ((with_reducible refine' ef_lst ?h0 ?h1); (case h0 => walk_at "pl_ea"); (case h1 => walk_at "pl_len"))
  | ((with_reducible refine' ef_slice ?h0 ?h1 ?h2); (case h0 => walk_at "pl_evb"); (case h1 => walk_at "pl_eo"); (case h2 => walk_at "pl_eo"))
  | ((with_reducible refine' ef_rev ?h0); (case h0 => walk_at "pl_evb"))
  | ((with_reducible refine' ef_cb ?h0 ?h1); (case h0 => walk_at "pl_eab"); (case h1 => walk_at "pl_cf"))
  | ((with_reducible refine' ev_opF ?h0 ?h1 ?h2); (case h0 => walk_at "pl_evb"); (case h1 => walk_at "pl_evb"); (case h2 => walk_at "pl_opf")))
local macro_rules | `(tactic| walk_at "pl_ev") => `(tactic| first
  | ((with_reducible refine' ev_var ?h0); (case h0 => rfl))
  | (with_reducible exact ev_int)
  | (with_reducible exact ev_str)
  | (with_reducible exact ev_bl)
  | (with_reducible exact ev_non)
  | ((with_reducible refine' ev_op ?h0 ?h1 ?h2); (case h0 => walk_at "pl_evb"); (case h1 => walk_at "pl_evb"); (case h2 => walk_at "pl_op"))
  | ((with_reducible refine' ev_cb ?h0 ?h1); (case h0 => walk_at "pl_eab"); (case h1 => walk_at "pl_cb"))
  | ((with_reducible refine' ev_isi ?h0 ?h1 ?h2); (case h0 => walk_at "pl_evb"); (case h1 => rfl); (case h2 => walk_at "pl_kk"))
  | ((with_reducible refine' ev_tup ?h0 ?h1); (case h0 => walk_at "pl_ea"); (case h1 => walk_at "pl_len"))
  | ((with_reducible refine' ev_neg ?h0); (case h0 => walk_at "pl_ev"))
  | ((with_reducible refine' ev_not ?h0); (case h0 => walk_at "pl_ev"))
  | ((with_reducible refine' ev_chain ?h0 ?h1 (fun _ => ?h2) ?h3 (fun _ => ?h4)); (case h0 => walk_at "pl_ev"); (case h1 => walk_at "pl_ev"); (case h3 => walk_at "pl_op"); (case h2 => walk_at "pl_ev"); (case h4 => walk_at "pl_op"))
  | ((with_reducible refine' ev_dinIS ?h0 ?h1); (case h0 => walk_at "pl_ev"); (case h1 => walk_at "pl_evb"))
  | ((with_reducible refine' ev_get2IS ?h0 ?h1 ?h2); (case h0 => walk_at "pl_evb"); (case h1 => walk_at "pl_ev"); (case h2 => walk_at "pl_ev"))
  | ((with_reducible refine' ev_and ?h0 ?h1); (case h0 => walk_at "pl_ev"); (case h1 => (intro hz; (try simp only [decide_eq_true_eq, decide_eq_false_iff_not] at hz); walk_at "pl_ev")))
  | ((with_reducible refine' ev_or ?h0 ?h1); (case h0 => walk_at "pl_ev"); (case h1 => (intro hz; (try simp only [decide_eq_true_eq, decide_eq_false_iff_not] at hz); walk_at "pl_ev")))
  | ((with_reducible refine' ev_sliceS ?h0 ?h1 ?h2 ?h3); (case h3 => walk_at "pl_side"); (case h0 => walk_at "pl_ev"); (case h1 => walk_at "pl_eo"); (case h2 => walk_at "pl_eo"))
  | ((with_reducible refine' EvF.im ?h0); (case h0 => walk_at "pl_evf")))
local macro_rules | `(tactic| walk_at "pl_et") => `(tactic| first
  | ((with_reducible refine' et_test ?h0); (case h0 => walk_at "pl_ev"))
  | ((with_reducible refine' et_B ?h0); (case h0 => walk_at "pl_ev"))
  | ((with_reducible refine' et_not ?h0); (case h0 => walk_at "pl_et"))
  | ((with_reducible refine' et_and ?h0 ?h1); (case h0 => walk_at "pl_et"); (case h1 => (intro hz; (try simp only [decide_eq_true_eq, decide_eq_false_iff_not] at hz); walk_at "pl_et")))
  | ((with_reducible refine' et_or ?h0 ?h1); (case h0 => walk_at "pl_et"); (case h1 => (intro hz; (try simp only [decide_eq_true_eq, decide_eq_false_iff_not] at hz); walk_at "pl_et")))
  | ((with_reducible refine' et_tru ?h0 ?h1); (case h0 => walk_at "pl_evb"); (case h1 => rfl)))
local macro_rules | `(tactic| walk_at "pl_nx") => `(tactic| simp only [List.set_cons_zero, List.set_cons_succ, Int.reduceToNat])
local macro_rules | `(tactic| walk_at "pl_sv") => `(tactic| first
  | ((with_reducible refine' sv_seq ?_))
  | ((with_reducible refine' sv_setF ?h0 ?_); (case h0 => walk_at "pl_evf"); walk_at "pl_nx")
  | ((with_reducible refine' sv_set ?h0 ?_); (case h0 => walk_at "pl_ev"); walk_at "pl_nx")
  | ((with_reducible refine' sv_app ?h0 ?h1 ?h2 ?_); (case h0 => rfl); (case h1 => walk_at "pl_ev"); (case h2 => walk_at "pl_side"); walk_at "pl_nx")
  | ((with_reducible refine' sv_dputIS ?h0 ?h1 ?h2 ?h3 ?_); (case h0 => rfl); (case h1 => walk_at "pl_ev"); (case h2 => walk_at "pl_ev"); (case h3 => walk_at "pl_side"); walk_at "pl_nx")
  | ((with_reducible refine' sv_next ?_))
  | ((with_reducible refine' sv_ret_own ?h0 ?_); (case h0 => rfl))
  | ((with_reducible refine' sv_retF ?h0 ?_); (case h0 => walk_at "pl_evf"))
  | ((with_reducible refine' sv_ret ?h0 ?_); (case h0 => walk_at "pl_ev"))
  | ((with_reducible refine' sv_cont ?_))
  | ((with_reducible refine' sv_brk ?_)))
local macro_rules | `(tactic| walk_at "pl_if") => `(tactic| ((with_reducible refine' sv_if ?h0 ?_ ?_); (case h0 => walk_at "pl_et")))
local macro_rules | `(tactic| walk_at "pl_go") => `(tactic| (repeat (walk_at "pl_sv")))

section
variable {K : PySem.W.Frag} {E : XK} {a : Adr} {ds : List D} {o : Out} {P : Sl → Prop}
theorem let_inj {r : Int} (hr : 0 ≤ r) {j k : Nat} (hj : j < 26) (hk : k < 26) (h : let_ ((r + j) % 26) = let_ ((r + k) % 26)) : j = k := by
  have inj : ∀ x : Fin 26, ∀ y : Fin 26, let_ (x.val : Int) = let_ (y.val : Int) → x = y := by decide +kernel
  have e1 : ((r + j) % 26) = (((r + j) % 26).toNat : Int) := by omega
  have e2 : ((r + k) % 26) = (((r + k) % 26).toNat : Int) := by omega
  rw [e1, e2] at h
  have := inj ⟨((r + j) % 26).toNat, by omega⟩ ⟨((r + k) % 26).toNat, by omega⟩ h
  have h3 : ((r + j) % 26).toNat = ((r + k) % 26).toNat := congrArg Fin.val this
  omega
theorem Drawn.perm {n : Int} {l l' : List Mv} (h : Drawn n l) (p : l'.Perm l) : Drawn n l' :=
  ⟨fun m hm => h.ok m (p.mem_iff.mp hm), (p.map kM).nodup_iff.mpr h.nd, by rw [p.length_eq]; exact h.len⟩
theorem okL_let {i : Int} (h0 : 0 ≤ i) (h1 : i < 26) : okL ⟨#[let_ i]⟩ = true := by
  unfold okL
  have := let_mem h0 h1
  simp only [Bool.and_eq_true, decide_eq_true_eq]
  exact ⟨rfl, this⟩
structure DInv (n r : Int) (i j : Nat) (ms : List Mv) : Prop where
  ok : ∀ m ∈ ms, okM n m = true
  nd : (ms.map kM).Nodup
  len : ms.length ≤ i * 26 + j
  key : ∀ m ∈ ms, m.1 < i ∨ (m.1 = i ∧ ∃ k : Nat, k < j ∧ m.2.1 = ⟨#[let_ ((r + k) % 26)]⟩)
theorem DInv.next {n r : Int} {i j : Nat} {ms : List Mv} (h : DInv n r i j ms) : DInv n r i (j + 1) ms :=
  ⟨h.ok, h.nd, by have := h.len; omega, fun m hm => by
    rcases h.key m hm with h | ⟨h, k, hk, e⟩
    · exact .inl h
    · exact .inr ⟨h, k, by omega, e⟩⟩
theorem DInv.row {n r : Int} {i j : Nat} {ms : List Mv} (h : DInv n r i j ms) (hj : j ≤ 26) : DInv n r (i + 1) 0 ms :=
  ⟨h.ok, h.nd, by have := h.len; omega, fun m hm => by
    rcases h.key m hm with h | ⟨h, k, hk, e⟩
    · exact .inl (by omega)
    · exact .inl (by omega)⟩
theorem DInv.add {n r : Int} {i j : Nat} {ms : List Mv} (h : DInv n r i j ms) (hr : 0 ≤ r) (hj : j < 26) (hi : (i : Int) < n) {t : Int} (ht0 : 0 ≤ t) (ht1 : t < n) : DInv n r i (j + 1) (ms ++ [((i : Int), ⟨#[let_ ((r + j) % 26)]⟩, t)]) := by
  have hl0 : 0 ≤ (r + j) % 26 := by omega
  have hl1 : (r + j) % 26 < 26 := by omega
  refine ⟨fun m hm => ?_, ?_, by have := h.len; simp; omega, fun m hm => ?_⟩
  · rcases List.mem_append.mp hm with hm | hm
    · exact h.ok m hm
    · rcases List.mem_singleton.mp hm with rfl
      unfold okM okSt
      rw [okL_let hl0 hl1]
      simp
      omega
  · rw [List.map_append, List.nodup_append]
    refine ⟨h.nd, by simp, fun x hx y hy z => ?_⟩
    obtain ⟨m, hm, rfl⟩ := List.mem_map.mp hx
    have hy' : y = kM ((i : Int), ⟨#[let_ ((r + j) % 26)]⟩, t) := by simpa using hy
    rw [hy'] at z
    have z1 : m.1 = (i : Int) ∧ m.2.1 = ⟨#[let_ ((r + j) % 26)]⟩ := by
      simp only [kM, List.cons.injEq, Sum.inl.injEq, Sum.inr.injEq, and_true] at z
      exact z
    rcases h.key m hm with q | ⟨q, k, hk, e⟩
    · omega
    · rw [e] at z1
      have z2 : let_ ((r + k) % 26) = let_ ((r + j) % 26) := by
        have := congrArg Str.cps z1.2
        simpa using this
      have := let_inj hr (by omega) hj z2
      omega
  · rcases List.mem_append.mp hm with hm | hm
    · exact h.next.key m hm
    · rcases List.mem_singleton.mp hm with rfl
      exact .inr ⟨rfl, j, by omega, rfl⟩
theorem r__law_drawn_moves (X : Kf K a) (h : R__law_drawn_moves a ds P) : SvD K E (wr0 9 ds) (t__law_drawn_moves K a E) (De.ofQ P) := by
  obtain ⟨row, n, many, rfl, hR, hn1, hn2, hm1, hm2, rfl⟩ := h
  show SvD K E [.im (dI row), .im (.int n), .im (.int many), .no, .no, .no, .no, .no, .no] _ _
  unfold t__law_drawn_moves
  have hlen := hR.len
  have hfew := hR.few
  have g3 := row_at hR (i := 3) (by omega)
  have hlen0 : (abc : Str).length ≤ 16777216 := by rw [abc_length]; decide
  walk_at "pl_go"
  refine sv_mid (fun ρ' => ∃ (ms : List Mv) (s5 s6 s7 : Sl), DInv n (row.getD 3 0) 17 0 ms ∧ ρ' = [.im (dI row), .im (.int n), .im (.int many), .im (.str abc), .ow (dMs ms), s5, s6, s7, .no]) ?_ ?_
  · refine sv_for (it_range (n := n) (ev_var (i := 1) rfl) (by omega) (by omega)) (fun i ρ' => ∃ (ms : List Mv) (s5 s6 s7 : Sl), DInv n (row.getD 3 0) i 0 ms ∧ ρ' = [.im (dI row), .im (.int n), .im (.int many), .im (.str abc), .ow (dMs ms), s5, s6, s7, .no]) ⟨[], _, _, _, ⟨by simp, by simp, by simp, by simp⟩, rfl⟩ ?_ ?_
    · rintro i _ hi ⟨ms, s5, s6, s7, hD, rfl⟩
      refine ⟨_, tg_name, ?_⟩
      walk_at "pl_nx"
      have hi' : (i : Int) < n := by omega
      refine sv_for (it_range (n := many) (ev_var (i := 2) rfl) (by omega) (by omega)) (fun j ρ' => ∃ (ms : List Mv) (s6 s7 : Sl), DInv n (row.getD 3 0) i j ms ∧ ρ' = [.im (dI row), .im (.int n), .im (.int many), .im (.str abc), .ow (dMs ms), .im (.int (i : Int)), s6, s7, .no]) ⟨ms, _, _, hD, rfl⟩ ?_ ?_
      · rintro j _ hj ⟨ms, s6, s7, hD, rfl⟩
        refine ⟨_, tg_name, ?_⟩
        walk_at "pl_nx"
        have hj' : (j : Int) < 26 := by omega
        have hx0 := Int.emod_nonneg ((i : Int) * 5 + (j : Int) * 3 + 20) (b := (row.length : Int)) (by omega)
        have hx1 := Int.emod_lt_of_pos ((i : Int) * 5 + (j : Int) * 3 + 20) (b := (row.length : Int)) (by omega)
        have hx0' : 0 ≤ ((i : Int) * 5 + (j : Int) * 3 + 20) % ((List.map D.int row).length : Int) := by rw [List.length_map]; exact hx0
        have hx1' : ((i : Int) * 5 + (j : Int) * 3 + 20) % ((List.map D.int row).length : Int) < row.length := by rw [List.length_map]; exact hx1
        have hpos : (0 : Int) < ((List.map D.int row).length : Int) := by rw [List.length_map]; omega
        walk_at "pl_sv"
        walk_at "pl_sv"
        have hdr := row_any hR (i := (((i : Int) * 5 + (j : Int) * 3 + 20) % ((List.map D.int row).length : Int)).toNat) (by omega)
        generalize row.getD (((i : Int) * 5 + (j : Int) * 3 + 20) % ((List.map D.int row).length : Int)).toNat 0 + 3 * (i : Int) + (j : Int) = dr
        have hat : atI abc.cps.toList ((row.getD 3 0 + (j : Int)) % 26) = some (let_ ((row.getD 3 0 + (j : Int)) % 26)) := abc_at (by omega) (by omega)
        have hml : (List.map dM ms).length < 16777216 := by have := hD.len; rw [List.length_map]; omega
        walk_at "pl_if"
        · intro _
          walk_at "pl_sv"
          have ht0 := Int.emod_nonneg (dr / 8) (b := n) (by omega)
          have ht1 := Int.emod_lt_of_pos (dr / 8) (b := n) (by omega)
          refine ⟨ms ++ [((i : Int), ⟨#[let_ ((row.getD 3 0 + j) % 26)]⟩, dr / 8 % n)], .im (.int (j : Int)), .im (.int dr), hD.add (by omega) (by omega) hi' ht0 ht1, ?_⟩
          unfold dMs
          rw [List.map_append]
          rfl
        · intro _
          walk_at "pl_sv"
          exact ⟨ms, _, _, hD.next, rfl⟩
      · rintro _ ⟨ms, s6, s7, hD, rfl⟩
        exact ⟨ms, _, _, _, hD.row (by omega), rfl⟩
    · rintro _ ⟨ms, s5, s6, s7, hD, rfl⟩
      refine ⟨ms, s5, s6, s7, ⟨hD.ok, hD.nd, by have := hD.len; omega, fun m hm => ?_⟩, rfl⟩
      rcases hD.key m hm with q | ⟨q, k, hk, e⟩
      · exact .inl (by omega)
      · omega
  rintro _ ⟨ms, s5, s6, s7, hD, rfl⟩
  dsimp only
  have hml := hD.len
  have hok : ∀ m ∈ ms, okS m.2.1 := fun m hm => by
    have h1 := hD.ok m hm
    unfold okM okL at h1
    simp only [Bool.and_eq_true, decide_eq_true_eq] at h1
    obtain ⟨c, hc⟩ := one_letter h1.2.1
    rw [hc] at h1 ⊢
    refine ⟨by show 1 ≤ 30; decide, strOk_of fun x hx => ?_⟩
    have : x = c := by simpa using hx
    rw [this]
    exact abc_small c h1.2.2
  have hDr : Drawn n ms := ⟨hD.ok, hD.nd, by omega⟩
  walk_at "pl_sv"
  refine sv_mid (fun ρ' => ms ≠ [] ∧ ρ' = [.im (dI row), .im (.int n), .im (.int many), .im (.str abc), .ow (dMs ms), s5, s6, s7, .no]) ?_ ?_
  · refine sv_if (et_test (ev_op (evb_var rfl) (EvD.b (EvF.im (ef_lst ea_nil (by simp)))) (oe_nil (good_moves (n := 58) hok)))) (fun hb => ?_) fun hb => ?_
    · walk_at "pl_go"
      exact ⟨ms, rfl, hDr⟩
    · walk_at "pl_go"
      refine ⟨?_, rfl⟩
      rintro rfl
      simp at hb
  rintro _ ⟨hne, rfl⟩
  dsimp only
  have hms0 : 0 < ms.length := by
    cases ms with
    | nil => exact absurd rfl hne
    | cons _ _ => simp
  have hle : (List.map dM ms).length = ms.length := List.length_map ..
  have hq : (0 : Int) < ((List.map dM ms).length : Int) := by omega
  have hq0 := Int.emod_nonneg (row.getD 4 0) (b := ((List.map dM ms).length : Int)) (by omega)
  have hq1 := Int.emod_lt_of_pos (row.getD 4 0) (b := ((List.map dM ms).length : Int)) (by omega)
  walk_at "pl_sv"
  walk_at "pl_sv"
  generalize row.getD 4 0 % ((List.map dM ms).length : Int) = t at hq0 hq1 ⊢
  walk_at "pl_sv"
  have hcat : PL.cutD (ms.map dM) (some t) none ++ PL.cutD (ms.map dM) none (some t) = (ms.drop t.toNat ++ ms.take t.toNat).map dM := by
    rw [cutD_map, cutD_map, cut_take (by omega) (by omega), cut_drop (by omega) (by omega), List.map_append]
  have hperm : (ms.drop t.toNat ++ ms.take t.toNat).Perm ms := (List.perm_append_comm).trans (by rw [List.take_append_drop])
  refine sv_setF (ev_opF (EvD.b (EvF.im (ef_slice (evb_var rfl) (eo_some (ev_var rfl)) eo_none))) (EvD.b (EvF.im (ef_slice (evb_var rfl) eo_none (eo_some (ev_var rfl))))) (oa_lst ?_)) ?_
  · rw [cutD_map, cutD_map, cut_take (by omega) (by omega), cut_drop (by omega) (by omega)]; simp; omega
  rw [hcat]
  walk_at "pl_nx"
  walk_at "pl_sv"
  walk_at "pl_if"
  · intro _
    walk_at "pl_go"
    refine ⟨(ms.drop t.toNat ++ ms.take t.toNat).reverse, ?_, hDr.perm ((List.reverse_perm _).trans hperm)⟩
    unfold dMs
    rw [List.map_reverse]
  · intro _
    walk_at "pl_go"
    exact ⟨_, rfl, hDr.perm hperm⟩
end
end K66

set_option Elab.async false
set_option linter.all false
set_option maxRecDepth 100000
set_option maxHeartbeats 1000000
namespace K66
open PySem PySem.Spec PyProof.Rows L2 PL
local macro_rules | `(tactic| walk_at "pl_len") => `(tactic| first
  | decide
  | (with_reducible assumption)
  | (simp; done)
  | omega)
local macro_rules | `(tactic| walk_at "pl_kk") => `(tactic| first
  | (with_reducible exact kk_NoneType_bool)
  | (with_reducible exact kk_NoneType_int)
  | (with_reducible exact kk_NoneType_str)
  | (with_reducible exact kk_NoneType_list)
  | (with_reducible exact kk_NoneType_tuple)
  | (with_reducible exact kk_bool_bool)
  | (with_reducible exact kk_bool_int)
  | (with_reducible exact kk_bool_str)
  | (with_reducible exact kk_bool_list)
  | (with_reducible exact kk_bool_tuple)
  | (with_reducible exact kk_int_bool)
  | (with_reducible exact kk_int_int)
  | (with_reducible exact kk_int_str)
  | (with_reducible exact kk_int_list)
  | (with_reducible exact kk_int_tuple)
  | (with_reducible exact kk_str_bool)
  | (with_reducible exact kk_str_int)
  | (with_reducible exact kk_str_str)
  | (with_reducible exact kk_str_list)
  | (with_reducible exact kk_str_tuple)
  | (with_reducible exact kk_list_bool)
  | (with_reducible exact kk_list_int)
  | (with_reducible exact kk_list_str)
  | (with_reducible exact kk_list_list)
  | (with_reducible exact kk_list_tuple)
  | (with_reducible exact kk_tuple_bool)
  | (with_reducible exact kk_tuple_int)
  | (with_reducible exact kk_tuple_str)
  | (with_reducible exact kk_tuple_list)
  | (with_reducible exact kk_tuple_tuple))
local macro_rules | `(tactic| walk_at "pl_at") => `(tactic| first
  | (with_reducible assumption)
  | assumption
  | rfl)
local macro_rules | `(tactic| walk_at "pl_side") => `(tactic| first
  | (with_reducible assumption)
  | omega
  | decide
  | (simp only [len_one]; omega))
local macro_rules | `(tactic| walk_at "pl_op") => `(tactic| first
  | (with_reducible exact oa_int)
  | (with_reducible exact om_sub)
  | (with_reducible exact om_lt)
  | (with_reducible exact om_le)
  | (with_reducible exact om_gt)
  | (with_reducible exact om_ge)
  | (with_reducible exact oe_int)
  | (with_reducible exact on_int)
  | (with_reducible exact oe_str)
  | (with_reducible exact on_str)
  | (with_reducible exact oe_bl)
  | (with_reducible exact on_bl)
  | (with_reducible exact oi_lint)
  | (with_reducible exact oi_tint)
  | (with_reducible exact oi_tstr)
  | (with_reducible exact oi_sign)
  | (with_reducible exact oni_sign)
  | (with_reducible exact oni_lint)
  | (with_reducible exact ois_non)
  | (with_reducible exact oisn_non)
  | ((with_reducible refine' om_mod ?h0); (case h0 => walk_at "pl_side"))
  | ((with_reducible refine' om_fdv ?h0 ?h1); (case h0 => walk_at "pl_side"); (case h1 => walk_at "pl_side"))
  | ((with_reducible refine' om_mulL ?h0 ?h1); (case h0 => walk_at "pl_side"); (case h1 => walk_at "pl_side"))
  | ((with_reducible refine' om_mulR ?h0 ?h1); (case h0 => walk_at "pl_side"); (case h1 => walk_at "pl_side"))
  | ((with_reducible refine' om_pow ?h0 ?h1 ?h2); (case h0 => walk_at "pl_side"); (case h1 => walk_at "pl_side"); (case h2 => walk_at "pl_side"))
  | ((with_reducible refine' ox_int ?h0 ?h1); (case h0 => walk_at "pl_side"); (case h1 => walk_at "pl_side"))
  | ((with_reducible refine' ox_scr ?h0 ?h1); (case h0 => walk_at "pl_side"); (case h1 => walk_at "pl_side"))
  | ((with_reducible refine' ox_lst ?h0); (case h0 => walk_at "pl_at"))
  | ((with_reducible refine' ox_tup ?h0); (case h0 => walk_at "pl_at"))
  | ((with_reducible refine' ox_str ?h0 ?h1); (case h0 => walk_at "pl_side"); (case h1 => walk_at "pl_at"))
  | ((with_reducible refine' oa_str ?h0); (case h0 => walk_at "pl_side"))
  | ((with_reducible refine' om_str ?h0); (case h0 => walk_at "pl_side")))
local macro_rules | `(tactic| walk_at "pl_cb") => `(tactic| first
  | (with_reducible exact c_int)
  | (with_reducible exact c_len_lst)
  | (with_reducible exact c_len_scr)
  | (with_reducible exact c_len_tup)
  | ((with_reducible refine' c_len_str ?h0); (case h0 => walk_at "pl_side"))
  | (with_reducible exact c_intB)
  | (with_reducible exact c_min)
  | (with_reducible exact c_max)
  | (with_reducible exact c_tuple))
local macro_rules | `(tactic| walk_at "pl_cf") => `(tactic| first
  | (with_reducible exact c_list)
  | (with_reducible exact c_listT))
local macro_rules | `(tactic| walk_at "pl_eab") => `(tactic| first
  | (with_reducible exact eb_nil)
  | ((with_reducible refine' eb_cons ?h0 ?h1); (case h0 => walk_at "pl_evb"); (case h1 => walk_at "pl_eab")))
local macro_rules | `(tactic| walk_at "pl_ea") => `(tactic| first
  | (with_reducible exact ea_nil)
  | ((with_reducible refine' ea_cons ?h0 ?h1); (case h0 => walk_at "pl_ev"); (case h1 => walk_at "pl_ea")))
local macro_rules | `(tactic| walk_at "pl_evb") => `(tactic| first
  | ((with_reducible refine' evb_var ?h0); (case h0 => rfl))
  | ((with_reducible refine' EvD.b ?h0); (case h0 => walk_at "pl_ev")))
local macro_rules | `(tactic| walk_at "pl_eo") => `(tactic| first
  | (with_reducible exact eo_none)
  | ((with_reducible refine' eo_some ?h0); (case h0 => walk_at "pl_ev")))
local macro_rules | `(tactic| walk_at "pl_opf") => `(tactic| first
  | ((with_reducible refine' oa_lst ?h0); (case h0 => walk_at "pl_len"))
  | ((with_reducible refine' om_rep ?h0 ?h1 ?h2); (case h0 => walk_at "pl_side"); (case h1 => walk_at "pl_side"); (case h2 => walk_at "pl_side")))
local macro_rules | `(tactic| walk_at "pl_evf") => `(tactic| first
  | (with_reducible exact ef_dnewT)
  | (with_reducible exact ef_dnewK)
  | ((with_reducible refine' ef_lst ?h0 ?h1); (case h0 => walk_at "pl_ea"); (case h1 => walk_at "pl_len"))
  | ((with_reducible refine' ef_slice ?h0 ?h1 ?h2); (case h0 => walk_at "pl_evb"); (case h1 => walk_at "pl_eo"); (case h2 => walk_at "pl_eo"))
  | ((with_reducible refine' ef_rev ?h0); (case h0 => walk_at "pl_evb"))
  | ((with_reducible refine' ef_cb ?h0 ?h1); (case h0 => walk_at "pl_eab"); (case h1 => walk_at "pl_cf"))
  | ((with_reducible refine' ev_opF ?h0 ?h1 ?h2); (case h0 => walk_at "pl_evb"); (case h1 => walk_at "pl_evb"); (case h2 => walk_at "pl_opf")))
local macro_rules | `(tactic| walk_at "pl_ev") => `(tactic| first
  | ((with_reducible refine' ev_var ?h0); (case h0 => rfl))
  | (with_reducible exact ev_int)
  | (with_reducible exact ev_str)
  | (with_reducible exact ev_bl)
  | (with_reducible exact ev_non)
  | ((with_reducible refine' ev_op ?h0 ?h1 ?h2); (case h0 => walk_at "pl_evb"); (case h1 => walk_at "pl_evb"); (case h2 => walk_at "pl_op"))
  | ((with_reducible refine' ev_cb ?h0 ?h1); (case h0 => walk_at "pl_eab"); (case h1 => walk_at "pl_cb"))
  | ((with_reducible refine' ev_isi ?h0 ?h1 ?h2); (case h0 => walk_at "pl_evb"); (case h1 => rfl); (case h2 => walk_at "pl_kk"))
  | ((with_reducible refine' ev_tup ?h0 ?h1); (case h0 => walk_at "pl_ea"); (case h1 => walk_at "pl_len"))
  | ((with_reducible refine' ev_neg ?h0); (case h0 => walk_at "pl_ev"))
  | ((with_reducible refine' ev_not ?h0); (case h0 => walk_at "pl_ev"))
  | ((with_reducible refine' ev_chain ?h0 ?h1 (fun _ => ?h2) ?h3 (fun _ => ?h4)); (case h0 => walk_at "pl_ev"); (case h1 => walk_at "pl_ev"); (case h3 => walk_at "pl_op"); (case h2 => walk_at "pl_ev"); (case h4 => walk_at "pl_op"))
  | ((with_reducible refine' ev_dinIS ?h0 ?h1); (case h0 => walk_at "pl_ev"); (case h1 => walk_at "pl_evb"))
  | ((with_reducible refine' ev_get2IS ?h0 ?h1 ?h2); (case h0 => walk_at "pl_evb"); (case h1 => walk_at "pl_ev"); (case h2 => walk_at "pl_ev"))
  | ((with_reducible refine' ev_and ?h0 ?h1); (case h0 => walk_at "pl_ev"); (case h1 => (intro hz; (try simp only [decide_eq_true_eq, decide_eq_false_iff_not] at hz); walk_at "pl_ev")))
  | ((with_reducible refine' ev_or ?h0 ?h1); (case h0 => walk_at "pl_ev"); (case h1 => (intro hz; (try simp only [decide_eq_true_eq, decide_eq_false_iff_not] at hz); walk_at "pl_ev")))
  | ((with_reducible refine' ev_sliceS ?h0 ?h1 ?h2 ?h3); (case h3 => walk_at "pl_side"); (case h0 => walk_at "pl_ev"); (case h1 => walk_at "pl_eo"); (case h2 => walk_at "pl_eo"))
  | ((with_reducible refine' EvF.im ?h0); (case h0 => walk_at "pl_evf")))
local macro_rules | `(tactic| walk_at "pl_et") => `(tactic| first
  | ((with_reducible refine' et_test ?h0); (case h0 => walk_at "pl_ev"))
  | ((with_reducible refine' et_B ?h0); (case h0 => walk_at "pl_ev"))
  | ((with_reducible refine' et_not ?h0); (case h0 => walk_at "pl_et"))
  | ((with_reducible refine' et_and ?h0 ?h1); (case h0 => walk_at "pl_et"); (case h1 => (intro hz; (try simp only [decide_eq_true_eq, decide_eq_false_iff_not] at hz); walk_at "pl_et")))
  | ((with_reducible refine' et_or ?h0 ?h1); (case h0 => walk_at "pl_et"); (case h1 => (intro hz; (try simp only [decide_eq_true_eq, decide_eq_false_iff_not] at hz); walk_at "pl_et")))
  | ((with_reducible refine' et_tru ?h0 ?h1); (case h0 => walk_at "pl_evb"); (case h1 => rfl)))
local macro_rules | `(tactic| walk_at "pl_nx") => `(tactic| simp only [List.set_cons_zero, List.set_cons_succ, Int.reduceToNat])
local macro_rules | `(tactic| walk_at "pl_sv") => `(tactic| first
  | ((with_reducible refine' sv_seq ?_))
  | ((with_reducible refine' sv_setF ?h0 ?_); (case h0 => walk_at "pl_evf"); walk_at "pl_nx")
  | ((with_reducible refine' sv_set ?h0 ?_); (case h0 => walk_at "pl_ev"); walk_at "pl_nx")
  | ((with_reducible refine' sv_app ?h0 ?h1 ?h2 ?_); (case h0 => rfl); (case h1 => walk_at "pl_ev"); (case h2 => walk_at "pl_side"); walk_at "pl_nx")
  | ((with_reducible refine' sv_dputIS ?h0 ?h1 ?h2 ?h3 ?_); (case h0 => rfl); (case h1 => walk_at "pl_ev"); (case h2 => walk_at "pl_ev"); (case h3 => walk_at "pl_side"); walk_at "pl_nx")
  | ((with_reducible refine' sv_next ?_))
  | ((with_reducible refine' sv_ret_own ?h0 ?_); (case h0 => rfl))
  | ((with_reducible refine' sv_retF ?h0 ?_); (case h0 => walk_at "pl_evf"))
  | ((with_reducible refine' sv_ret ?h0 ?_); (case h0 => walk_at "pl_ev"))
  | ((with_reducible refine' sv_cont ?_))
  | ((with_reducible refine' sv_brk ?_)))
local macro_rules | `(tactic| walk_at "pl_if") => `(tactic| ((with_reducible refine' sv_if ?h0 ?_ ?_); (case h0 => walk_at "pl_et")))
local macro_rules | `(tactic| walk_at "pl_go") => `(tactic| (repeat (walk_at "pl_sv")))

section
variable {K : PySem.W.Frag} {E : XK} {a : Adr} {ds : List D} {o : Out} {P : Sl → Prop}
theorem len_app (x y : Str) : (x ++ y).length = x.length + y.length := by
  show (x.cps ++ y.cps).size = x.cps.size + y.cps.size
  simp
theorem len_rep {s : Str} {n : Int} : (repS s n).length = s.length * n.toNat := by
  show ((List.replicate n.toNat s.cps.toList).flatten.toArray).size = _
  rw [List.size_toArray]
  have e : ∀ (k : Nat) (l : List Nat), (List.replicate k l).flatten.length = l.length * k := fun k l => by
    induction k with
    | zero => simp
    | succ k ih => rw [List.replicate_succ, List.flatten_cons, List.length_append, ih, Nat.mul_succ, Nat.add_comm]
  rw [e]
  simp
  rfl
theorem len_cut {s : Str} {lo hi : Option Int} : (cutS s lo hi).length ≤ s.length := by
  have h : (cutS s lo hi).length = (cutS s lo hi).cps.toList.length := by simp; rfl
  rw [h, cutS_list, List.length_take, List.length_drop]
  have : s.cps.toList.length = s.length := by simp; rfl
  omega
theorem r__law_words (X : Kf K a) (h : R__law_words a ds P) : SvD K E (wr0 7 ds) (t__law_words K a E) (De.ofQ P) := by
  obtain ⟨row, many, rfl, hR, hm1, hm2, rfl⟩ := h
  show SvD K E [.im (dI row), .im (.int many), .no, .no, .no, .no, .no] _ _
  unfold t__law_words
  have hlen := hR.len
  have hfew := hR.few
  have g3 := row_at hR (i := 3) (by omega)
  have g10 := row_at hR (i := 10) (by omega)
  have hlen0 : (abc : Str).length ≤ 16777216 := by rw [abc_length]; decide
  have hat10 : atI abc.cps.toList (row.getD 10 0 % 26) = some (let_ (row.getD 10 0 % 26)) := abc_at (by omega) (by omega)
  walk_at "pl_sv"
  walk_at "pl_sv"
  walk_at "pl_sv"
  walk_at "pl_sv"
  walk_at "pl_sv"
  refine sv_mid (fun ρ' => ∃ (ws : List Str) (s4 s5 s6 : Sl), ws.length = 7 ∧ (∀ w ∈ ws, w.length ≤ 31) ∧ ρ' = [.im (dI row), .im (.int many), .im (.str abc), .ow (.lst (ws.map .str)), s4, s5, s6]) ?_ ?_
  · refine sv_for (it_range (n := 4) ev_int (by omega) (by omega)) (fun i ρ' => ∃ (ws : List Str) (s4 s5 s6 : Sl), ws.length = 3 + i ∧ (∀ w ∈ ws, w.length ≤ 31) ∧ ρ' = [.im (dI row), .im (.int many), .im (.str abc), .ow (.lst (ws.map .str)), s4, s5, s6]) ⟨["", "A", ⟨#[let_ (row.getD 10 0 % 26)]⟩], _, _, _, rfl, ?_, rfl⟩ ?_ ?_
    · intro w hw
      simp only [List.mem_cons, List.not_mem_nil, or_false] at hw
      rcases hw with rfl | rfl | rfl
      · decide +kernel
      · decide +kernel
      · rw [len_one]; decide
    · rintro i _ hi ⟨ws, s4, s5, s6, hl, hw, rfl⟩
      have hi4 : i < 4 := hi
      refine ⟨_, tg_name, ?_⟩
      walk_at "pl_go"
      have gi := row_any hR (i := ((11 : Int) + (i : Int)).toNat) (by omega)
      refine sv_mid (fun ρ' => ∃ (w : Str) (s6 : Sl), w.length ≤ 31 ∧ ρ' = [.im (dI row), .im (.int many), .im (.str abc), .ow (.lst (ws.map .str)), .im (.int (i : Int)), .im (.str w), s6]) ?_ ?_
      · refine sv_for (n := (row.getD ((11 : Int) + (i : Int)).toNat 0 % 31).toNat) (f := fun j => .int (j : Int)) (it_range ?hn (by omega) (by omega)) (fun j ρ' => ∃ (w : Str) (s6 : Sl), w.length = j ∧ ρ' = [.im (dI row), .im (.int many), .im (.str abc), .ow (.lst (ws.map .str)), .im (.int (i : Int)), .im (.str w), s6]) ⟨"", _, by decide +kernel, rfl⟩ ?_ ?_
        case hn => walk_at "pl_ev"
        · rintro j _ hj ⟨w, s6, hwl, rfl⟩
          refine ⟨_, tg_name, ?_⟩
          walk_at "pl_nx"
          have hpos : (0 : Int) < ((List.map D.int row).length : Int) := by rw [List.length_map]; omega
          have hx0 := Int.emod_nonneg ((j : Int) * 3 + (i : Int) * 40 + 20) (b := ((List.map D.int row).length : Int)) (by omega)
          have hx1 := Int.emod_lt_of_pos ((j : Int) * 3 + (i : Int) * 40 + 20) (b := ((List.map D.int row).length : Int)) (by omega)
          have hle : (List.map D.int row).length = row.length := List.length_map ..
          have hat : atI abc.cps.toList ((row.getD 3 0 + row.getD (((j : Int) * 3 + (i : Int) * 40 + 20) % ((List.map D.int row).length : Int)).toNat 0 % many) % 26) = some (let_ ((row.getD 3 0 + row.getD (((j : Int) * 3 + (i : Int) * 40 + 20) % ((List.map D.int row).length : Int)).toNat 0 % many) % 26)) := abc_at (by omega) (by omega)
          walk_at "pl_sv"
          exact ⟨_, _, by rw [len_app, len_one, hwl], rfl⟩
        · rintro _ ⟨w, s6, hwl, rfl⟩
          exact ⟨w, s6, by omega, rfl⟩
      rintro _ ⟨w, s6, hwl, rfl⟩
      dsimp only
      have hml : (List.map D.str ws).length < 16777216 := by rw [List.length_map]; omega
      walk_at "pl_sv"
      refine ⟨ws ++ [w], .im (.int (i : Int)), .im (.str w), s6, by simp [hl]; omega, fun x hx => ?_, ?_⟩
      · rcases List.mem_append.mp hx with hx | hx
        · exact hw x hx
        · rw [List.mem_singleton.mp hx]; exact hwl
      · rw [List.map_append]; rfl
    · rintro _ ⟨ws, s4, s5, s6, hl, hw, rfl⟩
      exact ⟨ws, _, _, _, hl, hw, rfl⟩
  rintro _ ⟨ws, s4, s5, s6, hl, hw, rfl⟩
  dsimp only
  obtain ⟨w0, w1, w2, w3, w4, w5, w6, rfl⟩ : ∃ w0 w1 w2 w3 w4 w5 w6, ws = [w0, w1, w2, w3, w4, w5, w6] := by
    match ws, hl with
    | [w0, w1, w2, w3, w4, w5, w6], _ => exact ⟨w0, w1, w2, w3, w4, w5, w6, rfl⟩
  simp only [List.mem_cons, List.not_mem_nil, or_false, forall_eq_or_imp, forall_eq] at hw
  obtain ⟨b0, b1, b2, b3, b4, b5, b6⟩ := hw
  have g15 := row_at hR (i := 15) (by omega)
  have g16 := row_at hR (i := 16) (by omega)
  have e1 : (" " : Str).length = 1 := by decide +kernel
  have p1 : w3.length + (" " : Str).length ≤ 16777216 := by rw [e1]; omega
  have p2 : (w3 ++ (" " : Str)).length + w4.length ≤ 16777216 := by rw [len_app, e1]; omega
  have hat25 : atI abc.cps.toList ((row.getD 3 0 + 25) % 26) = some (let_ ((row.getD 3 0 + 25) % 26)) := abc_at (by omega) (by omega)
  have p4 : (w4 ++ (⟨#[let_ ((row.getD 3 0 + 25) % 26)]⟩ : Str)).length + w5.length ≤ 16777216 := by rw [len_app, len_one]; omega
  have p5 : CRepS w6 999 := ⟨by decide, by show w6.length * 999 ≤ _; omega, by decide⟩
  have p6 : (repS w6 999).length ≤ 16777216 := by rw [len_rep]; show w6.length * 999 ≤ _; omega
  have p7 : w6.length ≤ 16777216 := by omega
  simp only [List.map_cons, List.map_nil]
  walk_at "pl_sv"
  refine sv_app rfl (ev_op (EvD.b (ev_op (EvD.b (ev_op (d2 := .int 3) (evb_var rfl) (EvD.b ev_int) (ox_lst rfl))) (EvD.b ev_str) (oa_str p1))) (EvD.b (ev_op (d2 := .int 4) (evb_var rfl) (EvD.b ev_int) (ox_lst rfl))) (oa_str p2)) (by simp) ?_
  walk_at "pl_nx"
  walk_at "pl_sv"
  refine sv_app (d := .str (w4 ++ ⟨#[let_ ((row.getD 3 0 + 25) % 26)]⟩ ++ w5)) rfl (ev_op (EvD.b (ev_op (EvD.b (ev_op (d2 := .int 4) (evb_var rfl) (EvD.b ev_int) (ox_lst rfl))) (EvD.b (ev_op (EvD.b (ev_var rfl)) (EvD.b ?hx) (ox_str hlen0 hat25))) (oa_str ?hy))) (EvD.b (ev_op (d2 := .int 5) (evb_var rfl) (EvD.b ev_int) (ox_lst rfl))) (oa_str p4)) (by simp) ?_
  case hy => rw [len_one]; omega
  case hx =>
    change EvD K _ _ (.int ((row.getD (Int.toNat 3) 0 + 25) % 26))
    walk_at "pl_ev"
  simp only [List.cons_append, List.nil_append]
  walk_at "pl_nx"
  walk_at "pl_sv"
  refine sv_mid (fun ρ' => ∃ ws : List Str, (∀ w ∈ ws, w.length ≤ 40000) ∧ ρ' = [.im (dI row), .im (.int many), .im (.str abc), .ow (.lst (ws.map .str)), s4, s5, s6]) ?_ ?_
  · have hlen6 : ∀ {ρ' : List Sl} {l : List D}, ρ'[3]? = some (.ow (.lst l)) → l[6]? = some (.str w6) → EvD K ρ' (tOp (rIx K) (tVar 3) (tC (.int 6))) (.str w6) := fun e e2 => ev_op (d2 := .int 6) (evb_var e) (EvD.b ev_int) (ox_lst (by
      rw [atI_nn (by decide) (by have := (List.getElem?_eq_some_iff.mp e2).1; omega)]; exact e2))
    refine sv_if (et_and (b := decide (row.getD (Int.toNat 15) 0 % 4 = 1)) (et_test (ev_op (EvD.b (ev_cb (eb_cons (EvD.b (hlen6 rfl rfl)) eb_nil) (c_len_str p7))) (EvD.b ev_int) om_gt)) fun _ => ?hz) (fun _ => ?_) fun _ => ?_
    case hz => walk_at "pl_et"
    · refine sv_app rfl (ev_sliceS (hi := some (row.getD (Int.toNat 16) 0 + 3)) (ev_op (EvD.b (hlen6 rfl rfl)) (EvD.b ev_int) (om_str p5)) eo_none (eo_some ?hw2) p6) (by simp) ?_
      case hw2 => walk_at "pl_ev"
      refine ⟨[w0, w1, w2, w3, w4, w5, w6, w3 ++ " " ++ w4, w4 ++ ⟨#[let_ ((row.getD 3 0 + 25) % 26)]⟩ ++ w5, _], ?_, rfl⟩
      intro w hw
      simp only [List.mem_cons, List.not_mem_nil, or_false] at hw
      have q := len_cut (s := repS w6 999) (lo := none) (hi := some (row.getD (Int.toNat 16) 0 + 3))
      have q2 : (repS w6 999).length ≤ 30969 := by rw [len_rep]; show w6.length * 999 ≤ _; omega
      rcases hw with rfl | rfl | rfl | rfl | rfl | rfl | rfl | rfl | rfl | rfl
      all_goals first
        | omega
        | (rw [len_app, len_app, e1]; omega)
        | (rw [len_app, len_app, len_one]; omega)
    · walk_at "pl_sv"
      refine ⟨[w0, w1, w2, w3, w4, w5, w6, w3 ++ " " ++ w4, w4 ++ ⟨#[let_ ((row.getD 3 0 + 25) % 26)]⟩ ++ w5], ?_, rfl⟩
      intro w hw
      simp only [List.mem_cons, List.not_mem_nil, or_false] at hw
      rcases hw with rfl | rfl | rfl | rfl | rfl | rfl | rfl | rfl | rfl
      all_goals first
        | omega
        | (rw [len_app, len_app, e1]; omega)
        | (rw [len_app, len_app, len_one]; omega)
  rintro _ ⟨ws, hws, rfl⟩
  walk_at "pl_go"
  exact ⟨ws, rfl, hws⟩
end
end K66

set_option Elab.async false
set_option linter.all false
set_option maxRecDepth 100000
set_option maxHeartbeats 1000000
namespace K66
open PySem PySem.Spec PyProof.Rows L2 PL
local macro_rules | `(tactic| walk_at "pl_len") => `(tactic| first
  | decide
  | (with_reducible assumption)
  | (simp; done)
  | omega)
local macro_rules | `(tactic| walk_at "pl_kk") => `(tactic| first
  | (with_reducible exact kk_NoneType_bool)
  | (with_reducible exact kk_NoneType_int)
  | (with_reducible exact kk_NoneType_str)
  | (with_reducible exact kk_NoneType_list)
  | (with_reducible exact kk_NoneType_tuple)
  | (with_reducible exact kk_bool_bool)
  | (with_reducible exact kk_bool_int)
  | (with_reducible exact kk_bool_str)
  | (with_reducible exact kk_bool_list)
  | (with_reducible exact kk_bool_tuple)
  | (with_reducible exact kk_int_bool)
  | (with_reducible exact kk_int_int)
  | (with_reducible exact kk_int_str)
  | (with_reducible exact kk_int_list)
  | (with_reducible exact kk_int_tuple)
  | (with_reducible exact kk_str_bool)
  | (with_reducible exact kk_str_int)
  | (with_reducible exact kk_str_str)
  | (with_reducible exact kk_str_list)
  | (with_reducible exact kk_str_tuple)
  | (with_reducible exact kk_list_bool)
  | (with_reducible exact kk_list_int)
  | (with_reducible exact kk_list_str)
  | (with_reducible exact kk_list_list)
  | (with_reducible exact kk_list_tuple)
  | (with_reducible exact kk_tuple_bool)
  | (with_reducible exact kk_tuple_int)
  | (with_reducible exact kk_tuple_str)
  | (with_reducible exact kk_tuple_list)
  | (with_reducible exact kk_tuple_tuple))
local macro_rules | `(tactic| walk_at "pl_at") => `(tactic| first
  | (with_reducible assumption)
  | assumption
  | rfl)
local macro_rules | `(tactic| walk_at "pl_side") => `(tactic| first
  | (with_reducible assumption)
  | omega
  | decide
  | (simp only [len_one]; omega))
local macro_rules | `(tactic| walk_at "pl_op") => `(tactic| first
  | (with_reducible exact oa_int)
  | (with_reducible exact om_sub)
  | (with_reducible exact om_lt)
  | (with_reducible exact om_le)
  | (with_reducible exact om_gt)
  | (with_reducible exact om_ge)
  | (with_reducible exact oe_int)
  | (with_reducible exact on_int)
  | (with_reducible exact oe_str)
  | (with_reducible exact on_str)
  | (with_reducible exact oe_bl)
  | (with_reducible exact on_bl)
  | (with_reducible exact oi_lint)
  | (with_reducible exact oi_tint)
  | (with_reducible exact oi_tstr)
  | (with_reducible exact oi_sign)
  | (with_reducible exact oni_sign)
  | (with_reducible exact oni_lint)
  | (with_reducible exact ois_non)
  | (with_reducible exact oisn_non)
  | ((with_reducible refine' om_mod ?h0); (case h0 => walk_at "pl_side"))
  | ((with_reducible refine' om_fdv ?h0 ?h1); (case h0 => walk_at "pl_side"); (case h1 => walk_at "pl_side"))
  | ((with_reducible refine' om_mulL ?h0 ?h1); (case h0 => walk_at "pl_side"); (case h1 => walk_at "pl_side"))
  | ((with_reducible refine' om_mulR ?h0 ?h1); (case h0 => walk_at "pl_side"); (case h1 => walk_at "pl_side"))
  | ((with_reducible refine' om_pow ?h0 ?h1 ?h2); (case h0 => walk_at "pl_side"); (case h1 => walk_at "pl_side"); (case h2 => walk_at "pl_side"))
  | ((with_reducible refine' ox_int ?h0 ?h1); (case h0 => walk_at "pl_side"); (case h1 => walk_at "pl_side"))
  | ((with_reducible refine' ox_scr ?h0 ?h1); (case h0 => walk_at "pl_side"); (case h1 => walk_at "pl_side"))
  | ((with_reducible refine' ox_lst ?h0); (case h0 => walk_at "pl_at"))
  | ((with_reducible refine' ox_tup ?h0); (case h0 => walk_at "pl_at"))
  | ((with_reducible refine' ox_str ?h0 ?h1); (case h0 => walk_at "pl_side"); (case h1 => walk_at "pl_at"))
  | ((with_reducible refine' oa_str ?h0); (case h0 => walk_at "pl_side"))
  | ((with_reducible refine' om_str ?h0); (case h0 => walk_at "pl_side")))
local macro_rules | `(tactic| walk_at "pl_cb") => `(tactic| first
  | (with_reducible exact c_int)
  | (with_reducible exact c_len_lst)
  | (with_reducible exact c_len_scr)
  | (with_reducible exact c_len_tup)
  | ((with_reducible refine' c_len_str ?h0); (case h0 => walk_at "pl_side"))
  | (with_reducible exact c_intB)
  | (with_reducible exact c_min)
  | (with_reducible exact c_max)
  | (with_reducible exact c_tuple))
local macro_rules | `(tactic| walk_at "pl_cf") => `(tactic| first
  | (with_reducible exact c_list)
  | (with_reducible exact c_listT))
local macro_rules | `(tactic| walk_at "pl_eab") => `(tactic| first
  | (with_reducible exact eb_nil)
  | ((with_reducible refine' eb_cons ?h0 ?h1); (case h0 => walk_at "pl_evb"); (case h1 => walk_at "pl_eab")))
local macro_rules | `(tactic| walk_at "pl_ea") => `(tactic| first
  | (with_reducible exact ea_nil)
  | ((with_reducible refine' ea_cons ?h0 ?h1); (case h0 => walk_at "pl_ev"); (case h1 => walk_at "pl_ea")))
local macro_rules | `(tactic| walk_at "pl_evb") => `(tactic| first
  | ((with_reducible refine' evb_var ?h0); (case h0 => rfl))
  | ((with_reducible refine' EvD.b ?h0); (case h0 => walk_at "pl_ev")))
local macro_rules | `(tactic| walk_at "pl_eo") => `(tactic| first
  | (with_reducible exact eo_none)
  | ((with_reducible refine' eo_some ?h0); (case h0 => walk_at "pl_ev")))
local macro_rules | `(tactic| walk_at "pl_opf") => `(tactic| first
  | ((with_reducible refine' oa_lst ?h0); (case h0 => walk_at "pl_len"))
  | ((with_reducible refine' om_rep ?h0 ?h1 ?h2); (case h0 => walk_at "pl_side"); (case h1 => walk_at "pl_side"); (case h2 => walk_at "pl_side")))
local macro_rules | `(tactic| walk_at "pl_evf") => `(tactic| first
  | (with_reducible exact ef_dnewT)
  | (with_reducible exact ef_dnewK)
  | ((with_reducible refine' ef_lst ?h0 ?h1); (case h0 => walk_at "pl_ea"); (case h1 => walk_at "pl_len"))
  | ((with_reducible refine' ef_slice ?h0 ?h1 ?h2); (case h0 => walk_at "pl_evb"); (case h1 => walk_at "pl_eo"); (case h2 => walk_at "pl_eo"))
  | ((with_reducible refine' ef_rev ?h0); (case h0 => walk_at "pl_evb"))
  | ((with_reducible refine' ef_cb ?h0 ?h1); (case h0 => walk_at "pl_eab"); (case h1 => walk_at "pl_cf"))
  | ((with_reducible refine' ev_opF ?h0 ?h1 ?h2); (case h0 => walk_at "pl_evb"); (case h1 => walk_at "pl_evb"); (case h2 => walk_at "pl_opf")))
local macro_rules | `(tactic| walk_at "pl_ev") => `(tactic| first
  | ((with_reducible refine' ev_var ?h0); (case h0 => rfl))
  | (with_reducible exact ev_int)
  | (with_reducible exact ev_str)
  | (with_reducible exact ev_bl)
  | (with_reducible exact ev_non)
  | ((with_reducible refine' ev_op ?h0 ?h1 ?h2); (case h0 => walk_at "pl_evb"); (case h1 => walk_at "pl_evb"); (case h2 => walk_at "pl_op"))
  | ((with_reducible refine' ev_cb ?h0 ?h1); (case h0 => walk_at "pl_eab"); (case h1 => walk_at "pl_cb"))
  | ((with_reducible refine' ev_isi ?h0 ?h1 ?h2); (case h0 => walk_at "pl_evb"); (case h1 => rfl); (case h2 => walk_at "pl_kk"))
  | ((with_reducible refine' ev_tup ?h0 ?h1); (case h0 => walk_at "pl_ea"); (case h1 => walk_at "pl_len"))
  | ((with_reducible refine' ev_neg ?h0); (case h0 => walk_at "pl_ev"))
  | ((with_reducible refine' ev_not ?h0); (case h0 => walk_at "pl_ev"))
  | ((with_reducible refine' ev_chain ?h0 ?h1 (fun _ => ?h2) ?h3 (fun _ => ?h4)); (case h0 => walk_at "pl_ev"); (case h1 => walk_at "pl_ev"); (case h3 => walk_at "pl_op"); (case h2 => walk_at "pl_ev"); (case h4 => walk_at "pl_op"))
  | ((with_reducible refine' ev_dinIS ?h0 ?h1); (case h0 => walk_at "pl_ev"); (case h1 => walk_at "pl_evb"))
  | ((with_reducible refine' ev_get2IS ?h0 ?h1 ?h2); (case h0 => walk_at "pl_evb"); (case h1 => walk_at "pl_ev"); (case h2 => walk_at "pl_ev"))
  | ((with_reducible refine' ev_and ?h0 ?h1); (case h0 => walk_at "pl_ev"); (case h1 => (intro hz; (try simp only [decide_eq_true_eq, decide_eq_false_iff_not] at hz); walk_at "pl_ev")))
  | ((with_reducible refine' ev_or ?h0 ?h1); (case h0 => walk_at "pl_ev"); (case h1 => (intro hz; (try simp only [decide_eq_true_eq, decide_eq_false_iff_not] at hz); walk_at "pl_ev")))
  | ((with_reducible refine' ev_sliceS ?h0 ?h1 ?h2 ?h3); (case h3 => walk_at "pl_side"); (case h0 => walk_at "pl_ev"); (case h1 => walk_at "pl_eo"); (case h2 => walk_at "pl_eo"))
  | ((with_reducible refine' EvF.im ?h0); (case h0 => walk_at "pl_evf")))
local macro_rules | `(tactic| walk_at "pl_et") => `(tactic| first
  | ((with_reducible refine' et_test ?h0); (case h0 => walk_at "pl_ev"))
  | ((with_reducible refine' et_B ?h0); (case h0 => walk_at "pl_ev"))
  | ((with_reducible refine' et_not ?h0); (case h0 => walk_at "pl_et"))
  | ((with_reducible refine' et_and ?h0 ?h1); (case h0 => walk_at "pl_et"); (case h1 => (intro hz; (try simp only [decide_eq_true_eq, decide_eq_false_iff_not] at hz); walk_at "pl_et")))
  | ((with_reducible refine' et_or ?h0 ?h1); (case h0 => walk_at "pl_et"); (case h1 => (intro hz; (try simp only [decide_eq_true_eq, decide_eq_false_iff_not] at hz); walk_at "pl_et")))
  | ((with_reducible refine' et_tru ?h0 ?h1); (case h0 => walk_at "pl_evb"); (case h1 => rfl)))
local macro_rules | `(tactic| walk_at "pl_nx") => `(tactic| simp only [List.set_cons_zero, List.set_cons_succ, Int.reduceToNat])
local macro_rules | `(tactic| walk_at "pl_sv") => `(tactic| first
  | ((with_reducible refine' sv_seq ?_))
  | ((with_reducible refine' sv_setF ?h0 ?_); (case h0 => walk_at "pl_evf"); walk_at "pl_nx")
  | ((with_reducible refine' sv_set ?h0 ?_); (case h0 => walk_at "pl_ev"); walk_at "pl_nx")
  | ((with_reducible refine' sv_app ?h0 ?h1 ?h2 ?_); (case h0 => rfl); (case h1 => walk_at "pl_ev"); (case h2 => walk_at "pl_side"); walk_at "pl_nx")
  | ((with_reducible refine' sv_dputIS ?h0 ?h1 ?h2 ?h3 ?_); (case h0 => rfl); (case h1 => walk_at "pl_ev"); (case h2 => walk_at "pl_ev"); (case h3 => walk_at "pl_side"); walk_at "pl_nx")
  | ((with_reducible refine' sv_next ?_))
  | ((with_reducible refine' sv_ret_own ?h0 ?_); (case h0 => rfl))
  | ((with_reducible refine' sv_retF ?h0 ?_); (case h0 => walk_at "pl_evf"))
  | ((with_reducible refine' sv_ret ?h0 ?_); (case h0 => walk_at "pl_ev"))
  | ((with_reducible refine' sv_cont ?_))
  | ((with_reducible refine' sv_brk ?_)))
local macro_rules | `(tactic| walk_at "pl_if") => `(tactic| ((with_reducible refine' sv_if ?h0 ?_ ?_); (case h0 => walk_at "pl_et")))
local macro_rules | `(tactic| walk_at "pl_go") => `(tactic| (repeat (walk_at "pl_sv")))

section
variable {K : PySem.W.Frag} {E : XK} {a : Adr} {ds : List D} {o : Out} {P : Sl → Prop}
theorem Row.mono {row : List Int} {k j : Nat} (h : Row row k) (hj : j ≤ k) : Row row j := ⟨by have := h.len; omega, h.few, h.ok⟩
theorem r__law_world (X : Kf K a) (h : R__law_world a ds P) : SvD K E (wr0 7 ds) (t__law_world K a E) (De.ofQ P) := by
  obtain ⟨row, rfl, hR, rfl⟩ := h
  show SvD K E [.im (dI row), .no, .no, .no, .no, .no, .no] _ _
  unfold t__law_world
  have hlen := hR.len
  have hfew := hR.few
  have g0 := row_at hR (i := 0) (by omega)
  have g6 := row_at hR (i := 6) (by omega)
  have g8 := row_at hR (i := 8) (by omega)
  have g9 := row_at hR (i := 9) (by omega)
  walk_at "pl_go"
  refine sv_mid (fun ρ' => ∃ n : Int, 1 ≤ n ∧ n ≤ 17 ∧ ρ' = [.im (dI row), .im (.int n), .no, .no, .no, .no, .no]) ?_ ?_
  · walk_at "pl_if"
    · intro _
      walk_at "pl_sv"
      exact ⟨_, by omega, by omega, rfl⟩
    · intro _
      walk_at "pl_sv"
      exact ⟨_, by omega, by omega, rfl⟩
  rintro _ ⟨n, hn1, hn2, rfl⟩
  dsimp only
  walk_at "pl_sv"
  refine sv_mid (fun ρ' => ∃ many : Int, 1 ≤ many ∧ many ≤ 26 ∧ ρ' = [.im (dI row), .im (.int n), .im (.int many), .no, .no, .no, .no]) ?_ ?_
  · have hat : ∀ b : Bool, atI [D.int 3, D.int 26] (if b then 1 else 0) = some (.int (if b then 26 else 3)) := fun b => by cases b <;> rfl
    refine sv_set (d := .int (if decide (row.getD (Int.toNat 2) 0 % 4 = 1) then 26 else 3)) (ev_op (EvD.b (EvF.im (ef_lst (ea_cons ev_int (ea_cons ev_int ea_nil)) (by simp)))) (EvD.b (ev_cb (eb_cons (EvD.b ?hb) eb_nil) c_intB)) (ox_lst (hat (decide (row.getD (Int.toNat 2) 0 % 4 = 1))))) ?_
    case hb => walk_at "pl_ev"
    refine ⟨_, ?_, ?_, rfl⟩
    · split <;> decide
    · split <;> decide
  rintro _ ⟨many, hm1, hm2, rfl⟩
  dsimp only
  walk_at "pl_sv"
  have hlc : EvF K [.im (dI row), .im (.int n), .im (.int many), .no, .no, .no, .no] (tLc (iRng1 (tCons (tOp (qModI) (tCB (qInt) (tCons (tOp (rIx K) (tVar 0) (tC (.int 6))) (tNil))) (tC (.int 25))) (tNil))) (gName 4) (tYes) (tOp (qModI) (tCB (qInt) (tCons (tOp (rIx K) (tVar 0) (tCB (qInt) (tCons (tOp (rAddU K) (tC (.int 30)) (tVar 4)) (tNil)))) (tNil))) (tVar 1)) [4]) (.lst (((List.range (row.getD (Int.toNat 6) 0 % 25).toNat).filter fun _ => true).map fun (k : Nat) => .int (row.getD ((30 : Int) + (k : Int)).toNat 0 % n))) :=
    ef_lcR (fun _ => true) (fun k => .int (row.getD ((30 : Int) + (k : Int)).toNat 0 % n)) (by walk_at "pl_ev") (by omega) (by omega) fun x hx => ⟨et_yes, fun _ => by walk_at "pl_nx"; walk_at "pl_ev"⟩
  obtain ⟨gd, hgd, hgl, hgo⟩ : ∃ gd : List Int, (((List.range (row.getD (Int.toNat 6) 0 % 25).toNat).filter fun _ => true).map fun (k : Nat) => D.int (row.getD ((30 : Int) + (k : Int)).toNat 0 % n)) = gd.map .int ∧ gd.length ≤ 25 ∧ gd.all (okSt n) = true := by
    refine ⟨((List.range (row.getD (Int.toNat 6) 0 % 25).toNat).filter fun _ => true).map fun (k : Nat) => row.getD ((30 : Int) + (k : Int)).toNat 0 % n, by rw [List.map_map]; rfl, ?_, ?_⟩
    · rw [List.length_map]
      refine Nat.le_trans (List.length_filter_le _ _) ?_
      rw [List.length_range]; omega
    · rw [List.all_eq_true]
      intro x hx
      obtain ⟨k, hk, rfl⟩ := List.mem_map.mp hx
      have q0 := Int.emod_nonneg (row.getD ((30 : Int) + (k : Int)).toNat 0) (b := n) (by omega)
      have q1 := Int.emod_lt_of_pos (row.getD ((30 : Int) + (k : Int)).toNat 0) (b := n) (by omega)
      unfold okSt
      simp only [Bool.and_eq_true, decide_eq_true_eq]
      exact ⟨q0, q1⟩
  rw [hgd] at hlc
  refine sv_setF hlc ?_
  walk_at "pl_nx"
  walk_at "pl_sv"
  refine sv_setF (ef_cb (eb_cons (evb_var rfl) eb_nil) c_list) ?_
  walk_at "pl_nx"
  walk_at "pl_sv"
  have hml : (List.map D.int gd).length = gd.length := List.length_map ..
  refine sv_mid (fun ρ' => ∃ acc : List Int, acc.length < 40 ∧ ρ' = [.im (dI row), .im (.int n), .im (.int many), .ow (dI acc), .no, .ow (dI gd), .no]) ?_ ?_
  · walk_at "pl_if"
    · intro _
      have i0 := Int.emod_nonneg (row.getD 8 0) (b := ((List.map D.int gd).length : Int) + 1) (by omega)
      have i1 := Int.emod_lt_of_pos (row.getD 8 0) (b := ((List.map D.int gd).length : Int) + 1) (by omega)
      obtain ⟨y, hy⟩ : ∃ y : Int, atI [D.int (-1), D.int n, D.int (n + 9)] (row.getD 9 0 % 3) = some (.int y) := by
        have : row.getD 9 0 % 3 = 0 ∨ row.getD 9 0 % 3 = 1 ∨ row.getD 9 0 % 3 = 2 := by omega
        rcases this with e | e | e <;> rw [e]
        · exact ⟨-1, rfl⟩
        · exact ⟨n, rfl⟩
        · exact ⟨n + 9, rfl⟩
      refine sv_ins (n := row.getD (Int.toNat 8) 0 % (((List.map D.int gd).length : Int) + 1)) (d := .int y) rfl ?hi (ev_op (EvD.b (EvF.im (ef_lst (ea_cons (ev_neg ev_int) (ea_cons (ev_var rfl) (ea_cons (ev_op (EvD.b (ev_var rfl)) (EvD.b ev_int) oa_int) ea_nil))) (by simp)))) (EvD.b ?hj) (ox_lst hy)) (by omega) i0 (by show row.getD 8 0 % _ < _; omega) ?_
      case hi => walk_at "pl_ev"
      case hj =>
        change EvD K _ _ (.int (row.getD (Int.toNat 9) 0 % 3))
        walk_at "pl_ev"
      refine ⟨gd.take (row.getD 8 0 % (((List.map D.int gd).length : Int) + 1)).toNat ++ [y] ++ gd.drop (row.getD 8 0 % (((List.map D.int gd).length : Int) + 1)).toNat, ?_, ?_⟩
      · simp only [List.length_append, List.length_take, List.length_drop, List.length_singleton]; omega
      · unfold dI
        simp only [List.map_append, List.map_take, List.map_drop]
        rfl
    · intro _
      walk_at "pl_sv"
      exact ⟨gd, by omega, rfl⟩
  rintro _ ⟨acc, hacc, rfl⟩
  dsimp only
  walk_at "pl_sv"
  refine sv_setSQ (eq_call (ea_cons (ev_var rfl) (ea_cons (ev_var rfl) (ea_cons (ev_var rfl) ea_nil))) ⟨row, n, many, rfl, hR.mono (by omega), hn1, hn2, by omega, hm2, rfl⟩) ?_
  rintro _ ⟨ms, rfl, hD⟩
  refine sv_frz 3 rfl ?_
  refine sv_frz 5 rfl ?_
  refine sv_frz 6 rfl ?_
  walk_at "pl_nx"
  refine sv_retFQ (efq_lst (eaq_cons (EvD.q (ev_var rfl)) (eaq_cons (EvD.q (ev_var rfl)) (eaq_cons (EvD.q (ev_var rfl)) (eaq_cons (EvD.q (ev_var rfl)) (eaq_cons (EvSQ.im (eq_call (ea_cons (ev_var rfl) (ea_cons (ev_var rfl) ea_nil)) ⟨row, many, rfl, hR.mono (by omega), hm1, hm2, rfl⟩) ?_) eaq_nil))))) ?_) ?_
  · rintro _ ⟨ws, rfl, _⟩; trivial
  · rintro _ ⟨_, _, rfl, _, _, _, rfl, _, _, _, rfl, _, _, _, rfl, _, _, _, rfl, _, rfl⟩
    simp
  · rintro _ ⟨_, rfl, _, _, rfl, rfl, _, _, rfl, rfl, _, _, rfl, rfl, _, _, rfl, rfl, _, _, rfl, ⟨_, ⟨ws, rfl, hw⟩, rfl⟩, rfl⟩
    exact ⟨n, acc, gd, ms, ws, rfl, hn1, hn2, hacc, by omega, hgo, hD, hw⟩
end
end K66

set_option Elab.async false
set_option linter.all false
set_option maxRecDepth 100000
set_option maxHeartbeats 1000000
namespace K66
open PySem PySem.Spec PyProof.Rows L2 PL
local macro_rules | `(tactic| walk_at "pl_len") => `(tactic| first
  | decide
  | (with_reducible assumption)
  | (simp; done)
  | omega)
local macro_rules | `(tactic| walk_at "pl_kk") => `(tactic| first
  | (with_reducible exact kk_NoneType_bool)
  | (with_reducible exact kk_NoneType_int)
  | (with_reducible exact kk_NoneType_str)
  | (with_reducible exact kk_NoneType_list)
  | (with_reducible exact kk_NoneType_tuple)
  | (with_reducible exact kk_bool_bool)
  | (with_reducible exact kk_bool_int)
  | (with_reducible exact kk_bool_str)
  | (with_reducible exact kk_bool_list)
  | (with_reducible exact kk_bool_tuple)
  | (with_reducible exact kk_int_bool)
  | (with_reducible exact kk_int_int)
  | (with_reducible exact kk_int_str)
  | (with_reducible exact kk_int_list)
  | (with_reducible exact kk_int_tuple)
  | (with_reducible exact kk_str_bool)
  | (with_reducible exact kk_str_int)
  | (with_reducible exact kk_str_str)
  | (with_reducible exact kk_str_list)
  | (with_reducible exact kk_str_tuple)
  | (with_reducible exact kk_list_bool)
  | (with_reducible exact kk_list_int)
  | (with_reducible exact kk_list_str)
  | (with_reducible exact kk_list_list)
  | (with_reducible exact kk_list_tuple)
  | (with_reducible exact kk_tuple_bool)
  | (with_reducible exact kk_tuple_int)
  | (with_reducible exact kk_tuple_str)
  | (with_reducible exact kk_tuple_list)
  | (with_reducible exact kk_tuple_tuple))
local macro_rules | `(tactic| walk_at "pl_at") => `(tactic| first
  | (with_reducible assumption)
  | assumption
  | rfl)
local macro_rules | `(tactic| walk_at "pl_side") => `(tactic| first
  | (with_reducible assumption)
  | omega
  | decide
  | (simp only [len_one]; omega))
local macro_rules | `(tactic| walk_at "pl_op") => `(tactic| first
  | (with_reducible exact oa_int)
  | (with_reducible exact om_sub)
  | (with_reducible exact om_lt)
  | (with_reducible exact om_le)
  | (with_reducible exact om_gt)
  | (with_reducible exact om_ge)
  | (with_reducible exact oe_int)
  | (with_reducible exact on_int)
  | (with_reducible exact oe_str)
  | (with_reducible exact on_str)
  | (with_reducible exact oe_bl)
  | (with_reducible exact on_bl)
  | (with_reducible exact oi_lint)
  | (with_reducible exact oi_tint)
  | (with_reducible exact oi_tstr)
  | (with_reducible exact oi_sign)
  | (with_reducible exact oni_sign)
  | (with_reducible exact oni_lint)
  | (with_reducible exact ois_non)
  | (with_reducible exact oisn_non)
  | ((with_reducible refine' om_mod ?h0); (case h0 => walk_at "pl_side"))
  | ((with_reducible refine' om_fdv ?h0 ?h1); (case h0 => walk_at "pl_side"); (case h1 => walk_at "pl_side"))
  | ((with_reducible refine' om_mulL ?h0 ?h1); (case h0 => walk_at "pl_side"); (case h1 => walk_at "pl_side"))
  | ((with_reducible refine' om_mulR ?h0 ?h1); (case h0 => walk_at "pl_side"); (case h1 => walk_at "pl_side"))
  | ((with_reducible refine' om_pow ?h0 ?h1 ?h2); (case h0 => walk_at "pl_side"); (case h1 => walk_at "pl_side"); (case h2 => walk_at "pl_side"))
  | ((with_reducible refine' ox_int ?h0 ?h1); (case h0 => walk_at "pl_side"); (case h1 => walk_at "pl_side"))
  | ((with_reducible refine' ox_scr ?h0 ?h1); (case h0 => walk_at "pl_side"); (case h1 => walk_at "pl_side"))
  | ((with_reducible refine' ox_lst ?h0); (case h0 => walk_at "pl_at"))
  | ((with_reducible refine' ox_tup ?h0); (case h0 => walk_at "pl_at"))
  | ((with_reducible refine' ox_str ?h0 ?h1); (case h0 => walk_at "pl_side"); (case h1 => walk_at "pl_at"))
  | ((with_reducible refine' oa_str ?h0); (case h0 => walk_at "pl_side"))
  | ((with_reducible refine' om_str ?h0); (case h0 => walk_at "pl_side")))
local macro_rules | `(tactic| walk_at "pl_cb") => `(tactic| first
  | (with_reducible exact c_int)
  | (with_reducible exact c_len_lst)
  | (with_reducible exact c_len_scr)
  | (with_reducible exact c_len_tup)
  | ((with_reducible refine' c_len_str ?h0); (case h0 => walk_at "pl_side"))
  | (with_reducible exact c_intB)
  | (with_reducible exact c_min)
  | (with_reducible exact c_max)
  | (with_reducible exact c_tuple))
local macro_rules | `(tactic| walk_at "pl_cf") => `(tactic| first
  | (with_reducible exact c_list)
  | (with_reducible exact c_listT))
local macro_rules | `(tactic| walk_at "pl_eab") => `(tactic| first
  | (with_reducible exact eb_nil)
  | ((with_reducible refine' eb_cons ?h0 ?h1); (case h0 => walk_at "pl_evb"); (case h1 => walk_at "pl_eab")))
local macro_rules | `(tactic| walk_at "pl_ea") => `(tactic| first
  | (with_reducible exact ea_nil)
  | ((with_reducible refine' ea_cons ?h0 ?h1); (case h0 => walk_at "pl_ev"); (case h1 => walk_at "pl_ea")))
local macro_rules | `(tactic| walk_at "pl_evb") => `(tactic| first
  | ((with_reducible refine' evb_var ?h0); (case h0 => rfl))
  | ((with_reducible refine' EvD.b ?h0); (case h0 => walk_at "pl_ev")))
local macro_rules | `(tactic| walk_at "pl_eo") => `(tactic| first
  | (with_reducible exact eo_none)
  | ((with_reducible refine' eo_some ?h0); (case h0 => walk_at "pl_ev")))
local macro_rules | `(tactic| walk_at "pl_opf") => `(tactic| first
  | ((with_reducible refine' oa_lst ?h0); (case h0 => walk_at "pl_len"))
  | ((with_reducible refine' om_rep ?h0 ?h1 ?h2); (case h0 => walk_at "pl_side"); (case h1 => walk_at "pl_side"); (case h2 => walk_at "pl_side")))
local macro_rules | `(tactic| walk_at "pl_evf") => `(tactic| first
  | (with_reducible exact ef_dnewT)
  | (with_reducible exact ef_dnewK)
  | ((with_reducible refine' ef_lst ?h0 ?h1); (case h0 => walk_at "pl_ea"); (case h1 => walk_at "pl_len"))
  | ((with_reducible refine' ef_slice ?h0 ?h1 ?h2); (case h0 => walk_at "pl_evb"); (case h1 => walk_at "pl_eo"); (case h2 => walk_at "pl_eo"))
  | ((with_reducible refine' ef_rev ?h0); (case h0 => walk_at "pl_evb"))
  | ((with_reducible refine' ef_cb ?h0 ?h1); (case h0 => walk_at "pl_eab"); (case h1 => walk_at "pl_cf"))
  | ((with_reducible refine' ev_opF ?h0 ?h1 ?h2); (case h0 => walk_at "pl_evb"); (case h1 => walk_at "pl_evb"); (case h2 => walk_at "pl_opf")))
local macro_rules | `(tactic| walk_at "pl_ev") => `(tactic| first
  | ((with_reducible refine' ev_var ?h0); (case h0 => rfl))
  | (with_reducible exact ev_int)
  | (with_reducible exact ev_str)
  | (with_reducible exact ev_bl)
  | (with_reducible exact ev_non)
  | ((with_reducible refine' ev_op ?h0 ?h1 ?h2); (case h0 => walk_at "pl_evb"); (case h1 => walk_at "pl_evb"); (case h2 => walk_at "pl_op"))
  | ((with_reducible refine' ev_cb ?h0 ?h1); (case h0 => walk_at "pl_eab"); (case h1 => walk_at "pl_cb"))
  | ((with_reducible refine' ev_isi ?h0 ?h1 ?h2); (case h0 => walk_at "pl_evb"); (case h1 => rfl); (case h2 => walk_at "pl_kk"))
  | ((with_reducible refine' ev_tup ?h0 ?h1); (case h0 => walk_at "pl_ea"); (case h1 => walk_at "pl_len"))
  | ((with_reducible refine' ev_neg ?h0); (case h0 => walk_at "pl_ev"))
  | ((with_reducible refine' ev_not ?h0); (case h0 => walk_at "pl_ev"))
  | ((with_reducible refine' ev_chain ?h0 ?h1 (fun _ => ?h2) ?h3 (fun _ => ?h4)); (case h0 => walk_at "pl_ev"); (case h1 => walk_at "pl_ev"); (case h3 => walk_at "pl_op"); (case h2 => walk_at "pl_ev"); (case h4 => walk_at "pl_op"))
  | ((with_reducible refine' ev_dinIS ?h0 ?h1); (case h0 => walk_at "pl_ev"); (case h1 => walk_at "pl_evb"))
  | ((with_reducible refine' ev_get2IS ?h0 ?h1 ?h2); (case h0 => walk_at "pl_evb"); (case h1 => walk_at "pl_ev"); (case h2 => walk_at "pl_ev"))
  | ((with_reducible refine' ev_and ?h0 ?h1); (case h0 => walk_at "pl_ev"); (case h1 => (intro hz; (try simp only [decide_eq_true_eq, decide_eq_false_iff_not] at hz); walk_at "pl_ev")))
  | ((with_reducible refine' ev_or ?h0 ?h1); (case h0 => walk_at "pl_ev"); (case h1 => (intro hz; (try simp only [decide_eq_true_eq, decide_eq_false_iff_not] at hz); walk_at "pl_ev")))
  | ((with_reducible refine' ev_sliceS ?h0 ?h1 ?h2 ?h3); (case h3 => walk_at "pl_side"); (case h0 => walk_at "pl_ev"); (case h1 => walk_at "pl_eo"); (case h2 => walk_at "pl_eo"))
  | ((with_reducible refine' EvF.im ?h0); (case h0 => walk_at "pl_evf")))
local macro_rules | `(tactic| walk_at "pl_et") => `(tactic| first
  | ((with_reducible refine' et_test ?h0); (case h0 => walk_at "pl_ev"))
  | ((with_reducible refine' et_B ?h0); (case h0 => walk_at "pl_ev"))
  | ((with_reducible refine' et_not ?h0); (case h0 => walk_at "pl_et"))
  | ((with_reducible refine' et_and ?h0 ?h1); (case h0 => walk_at "pl_et"); (case h1 => (intro hz; (try simp only [decide_eq_true_eq, decide_eq_false_iff_not] at hz); walk_at "pl_et")))
  | ((with_reducible refine' et_or ?h0 ?h1); (case h0 => walk_at "pl_et"); (case h1 => (intro hz; (try simp only [decide_eq_true_eq, decide_eq_false_iff_not] at hz); walk_at "pl_et")))
  | ((with_reducible refine' et_tru ?h0 ?h1); (case h0 => walk_at "pl_evb"); (case h1 => rfl)))
local macro_rules | `(tactic| walk_at "pl_nx") => `(tactic| simp only [List.set_cons_zero, List.set_cons_succ, Int.reduceToNat])
local macro_rules | `(tactic| walk_at "pl_sv") => `(tactic| first
  | ((with_reducible refine' sv_seq ?_))
  | ((with_reducible refine' sv_setF ?h0 ?_); (case h0 => walk_at "pl_evf"); walk_at "pl_nx")
  | ((with_reducible refine' sv_set ?h0 ?_); (case h0 => walk_at "pl_ev"); walk_at "pl_nx")
  | ((with_reducible refine' sv_app ?h0 ?h1 ?h2 ?_); (case h0 => rfl); (case h1 => walk_at "pl_ev"); (case h2 => walk_at "pl_side"); walk_at "pl_nx")
  | ((with_reducible refine' sv_dputIS ?h0 ?h1 ?h2 ?h3 ?_); (case h0 => rfl); (case h1 => walk_at "pl_ev"); (case h2 => walk_at "pl_ev"); (case h3 => walk_at "pl_side"); walk_at "pl_nx")
  | ((with_reducible refine' sv_next ?_))
  | ((with_reducible refine' sv_ret_own ?h0 ?_); (case h0 => rfl))
  | ((with_reducible refine' sv_retF ?h0 ?_); (case h0 => walk_at "pl_evf"))
  | ((with_reducible refine' sv_ret ?h0 ?_); (case h0 => walk_at "pl_ev"))
  | ((with_reducible refine' sv_cont ?_))
  | ((with_reducible refine' sv_brk ?_)))
local macro_rules | `(tactic| walk_at "pl_if") => `(tactic| ((with_reducible refine' sv_if ?h0 ?_ ?_); (case h0 => walk_at "pl_et")))
local macro_rules | `(tactic| walk_at "pl_go") => `(tactic| (repeat (walk_at "pl_sv")))

section
variable {K : PySem.W.Frag} {E : XK} {a : Adr} {ds : List D} {o : Out} {P : Sl → Prop}
theorem okM_okS {n : Int} {m : Mv} (h : okM n m = true) : okS m.2.1 := by
  unfold okM okL at h
  simp only [Bool.and_eq_true, decide_eq_true_eq] at h
  obtain ⟨c, hc⟩ := one_letter h.2.1
  rw [hc] at h ⊢
  refine ⟨by show 1 ≤ 30; decide, strOk_of fun x hx => ?_⟩
  have : x = c := by simpa using hx
  rw [this]
  exact abc_small c h.2.2
/-- moves that a machine of n states takes -/
theorem moOf_ok {n : Int} {acc : List Int} {ms : List Mv} (hn : n ≤ 16) (ha : acc.all (okSt n) = true) (hm : ∀ m ∈ ms, okM n m = true) (hd : (ms.map kM).Nodup) : moOf n acc ms = .ok := by
  unfold moOf
  rw [if_neg (by omega), if_pos ha, firstBad_none]
  intro j hj
  rw [goodAt_iff hj, hm _ (List.getElem_mem hj)]
  simp only [Bool.true_and, Bool.not_eq_true', ← Bool.not_eq_true]
  rw [memB_iff]
  intro hk
  have h1 : ms.map kM = (ms.take j).map kM ++ (kM ms[j] :: (ms.drop (j + 1)).map kM) := by
    rw [← List.map_cons, ← List.map_append, List.getElem_cons_drop hj, List.take_append_drop]
  rw [h1, List.nodup_append] at hd
  exact hd.2.2 _ hk _ List.mem_cons_self rfl
theorem few_of {n : Int} {acc : List Int} {ms : List Mv} (h1 : 1 ≤ n) (h2 : n ≤ 17) (ha : acc.length < 40) (hm : ms.length ≤ 500) (hl : ∀ m ∈ ms, okS m.2.1) : Few n acc ms := ⟨by omega, by omega, by omega, by omega, hl⟩
theorem okM_less {n f : Int} {m : Mv} (h : okM n m = true) (h1 : m.1 < f) (h2 : m.2.2 < f) : okM f m = true := by
  unfold okM okSt at h ⊢
  simp only [Bool.and_eq_true, decide_eq_true_eq] at h ⊢
  exact ⟨⟨⟨h.1.1.1, h1⟩, h.1.2.1, h2⟩, h.2⟩
theorem okM_turn {n f : Int} {m : Mv} (h : okM n m = true) (h1 : m.1 < f) (h2 : m.2.2 < f) : okM f (m.1, m.2.1, f - 1 - m.2.2) = true := by
  unfold okM okSt at h ⊢
  simp only [Bool.and_eq_true, decide_eq_true_eq] at h ⊢
  exact ⟨⟨⟨h.1.1.1, h1⟩, by omega, by omega⟩, h.2⟩
theorem r_law (X : Kf K a) (h : R_law a ds o) : SvD K E (wr0 16 ds) (t_law K a E) (De.of o) := by
  obtain ⟨ns, rfl, rfl⟩ := h
  show SvD K E [.im (.scr ns), .no, .no, .no, .no, .no, .no, .no, .no, .no, .no, .no, .no, .no, .no, .no] _ _
  unfold t_law
  walk_at "pl_sv"
  refine sv_setF (ef_call (ea_cons (ev_var rfl) (ea_cons ev_int ea_nil)) ⟨ns, 150, rfl, by decide, by decide, rfl⟩) ?_
  walk_at "pl_nx"
  have hR : Row (rowOf ns 150) 150 := ⟨by unfold rowOf; rw [rIter_len]; decide, by unfold rowOf; rw [rIter_len]; decide, rIter_ok ns _⟩
  have hRl : (rowOf ns 150).length = 150 := by unfold rowOf; rw [rIter_len]; rfl
  generalize rowOf ns 150 = row at hR hRl ⊢
  refine sv_frz 1 rfl ?_
  walk_at "pl_nx"
  walk_at "pl_sv"
  have g17 := row_at hR (i := 17) (by omega)
  refine sv_asgDQ (EvSQ.im (eq_call (ea_cons (ev_var rfl) ea_nil) ⟨row, rfl, hR, rfl⟩) ?_) ?_
  · rintro _ ⟨_, _, _, _, _, rfl, _⟩; trivial
  rintro _ ⟨_, ⟨n, acc, gd, ms, ws, rfl, hn1, hn2, hacl, hgl, hgo, hD, hw⟩, rfl⟩
  refine ⟨_, tg_lst (tgs_cons tg_name (tgs_cons tg_name (tgs_cons tg_name (tgs_cons tg_name (tgs_cons tg_name tgs_nil))))), ?_⟩
  walk_at "pl_nx"
  have hml := hD.len
  have hmo : ∀ m ∈ ms, okS m.2.1 := fun m hm => okM_okS (hD.ok m hm)
  walk_at "pl_sv"
  have hh : ∀ {ρ' : List Sl} {i : Nat} {j : Nat} {ac : List Int} {mv : List Mv}, ρ'[2]? = some (.im (.int n)) → ρ'[i]? = some (.im (dI ac)) → ρ'[j]? = some (.im (dMs mv)) → ρ'[6]? = some (.im (.lst (ws.map .str))) → Few n ac mv →
      EvT K ρ' (tB (tCall (spD K (R__law_holds a)) [] E0 (tCons (tVar 2) (tCons (tVar i) (tCons (tVar j) (tCons (tVar 6) tNil)))))) true := fun e1 e2 e3 e4 hf =>
    et_B (ev_call (ea_cons (ev_var e1) (ea_cons (ev_var e2) (ea_cons (ev_var e3) (ea_cons (ev_var e4) ea_nil)))) ⟨n, _, _, ws, rfl, hf, hw, rfl⟩)
  refine sv_mid (fun ρ' => ρ' = [.im (.scr ns), .im (dI row), .im (.int n), .im (dI acc), .im (dI gd), .im (dMs ms), .im (.lst (ws.map .str)), .no, .no, .no, .no, .no, .no, .no, .no, .no]) ?_ ?_
  · refine sv_if (et_or (et_not (hh rfl rfl rfl rfl (few_of hn1 hn2 hacl (by omega) hmo))) fun _ => et_not (hh rfl rfl rfl rfl (few_of hn1 hn2 hgl (by omega) hmo))) (fun hb => by cases hb) fun _ => ?_
    walk_at "pl_sv"
    rfl
  rintro _ rfl
  dsimp only
  walk_at "pl_sv"
  walk_at "pl_sv"
  walk_at "pl_sv"
  refine sv_mid (fun ρ' => ∃ (sp : List Mv) (s7 s8 : Sl), sp.length ≤ 453 ∧ (∀ m ∈ sp, okS m.2.1) ∧ (s7 = .im (dMs sp) ∨ s7 = .ow (dMs sp)) ∧ ρ' = [.im (.scr ns), .im (dI row), .im (.int n), .im (dI acc), .im (dI gd), .im (dMs ms), .im (.lst (ws.map .str)), s7, s8, .no, .no, .no, .no, .no, .no, .no]) ?_ ?_
  · refine sv_for (n := (row.getD (Int.toNat 17) 0 % 3).toNat) (f := fun j => .int (j : Int)) (it_range ?hn (by omega) (by omega)) (fun i ρ' => ∃ (sp : List Mv) (s7 s8 : Sl), sp.length ≤ 450 + i ∧ (∀ m ∈ sp, okS m.2.1) ∧ (s7 = .im (dMs sp) ∨ s7 = .ow (dMs sp)) ∧ ρ' = [.im (.scr ns), .im (dI row), .im (.int n), .im (dI acc), .im (dI gd), .im (dMs ms), .im (.lst (ws.map .str)), s7, s8, .no, .no, .no, .no, .no, .no, .no]) ⟨ms, _, _, by omega, hmo, .inl rfl, rfl⟩ ?_ ?_
    case hn => walk_at "pl_ev"
    · rintro i _ hi ⟨sp, s7, s8, hsl, hso, hs7, rfl⟩
      have hi3 : i < 3 := by
        have : row.getD (Int.toNat 17) 0 % 3 < 3 := by omega
        omega
      refine ⟨_, tg_name, ?_⟩
      walk_at "pl_nx"
      have core : SvD K E [.im (.scr ns), .im (dI row), .im (.int n), .im (dI acc), .im (dI gd), .im (dMs ms), .im (.lst (ws.map .str)), .im (dMs sp), .im (.int (i : Int)), .no, .no, .no, .no, .no, .no, .no] (tAsg (tCall (spQ K (R__law_spoilt a)) [] E0 (tCons (tVar 7) (tCons (tVar 2) (tCons (tSl (rSlU K) (tVar 1) (tPart (tCB (qInt) (tCons (tOp (rAddU K) (tC (.int 60)) (tOp (rMulU) (tC (.int 10)) (tVar 8))) (tNil)))) (tNoPart)) (tNil))))) (gName 7))
          { nx := fun ρ' => ∃ (sp : List Mv) (s7 s8 : Sl), sp.length ≤ 450 + (i + 1) ∧ (∀ m ∈ sp, okS m.2.1) ∧ (s7 = .im (dMs sp) ∨ s7 = .ow (dMs sp)) ∧ ρ' = [.im (.scr ns), .im (dI row), .im (.int n), .im (dI acc), .im (dI gd), .im (dMs ms), .im (.lst (ws.map .str)), s7, s8, .no, .no, .no, .no, .no, .no, .no], rt := fun _ => False } := by
        have hcut : PL.cutD (row.map D.int) (some ((60 : Int) + 10 * (i : Int))) none = (row.drop ((60 : Int) + 10 * (i : Int)).toNat).map D.int := by
          rw [cutD_map, cut_drop (by omega) (by omega)]
        have hRd : Row (row.drop ((60 : Int) + 10 * (i : Int)).toNat) 5 := ⟨by rw [List.length_drop]; omega, by rw [List.length_drop]; omega, fun x hx => hR.ok x (List.mem_of_mem_drop hx)⟩
        have hsl2 : EvF K [.im (.scr ns), .im (dI row), .im (.int n), .im (dI acc), .im (dI gd), .im (dMs ms), .im (.lst (ws.map .str)), .im (dMs sp), .im (.int (i : Int)), .no, .no, .no, .no, .no, .no, .no] (tSl (rSlU K) (tVar 1) (tPart (tCB (qInt) (tCons (tOp (rAddU K) (tC (.int 60)) (tOp (rMulU) (tC (.int 10)) (tVar 8))) (tNil)))) (tNoPart)) (dI (row.drop ((60 : Int) + 10 * (i : Int)).toNat)) := by
          unfold dI
          rw [← hcut]
          exact ef_slice (EvD.b (ev_var rfl)) (eo_some (by walk_at "pl_ev")) eo_none
        refine sv_setSQ (eq_call (ea_cons (ev_var rfl) (ea_cons (ev_var rfl) (ea_cons (EvF.im hsl2) ea_nil))) ⟨sp, n, _, rfl, hRd, hn1, hn2, by omega, hso, rfl⟩) ?_
        rintro _ ⟨sp', rfl, hl', ho'⟩
        exact ⟨sp', _, _, by omega, ho', .inr rfl, rfl⟩
      have core2 := core.imp (Δ' := { nx := fun ρ' => ∃ (sp : List Mv) (s7 s8 : Sl), sp.length ≤ 450 + (i + 1) ∧ (∀ m ∈ sp, okS m.2.1) ∧ (s7 = .im (dMs sp) ∨ s7 = .ow (dMs sp)) ∧ ρ' = [.im (.scr ns), .im (dI row), .im (.int n), .im (dI acc), .im (dI gd), .im (dMs ms), .im (.lst (ws.map .str)), s7, s8, .no, .no, .no, .no, .no, .no, .no], rt := fun _ => False }) (fun _ h => h) (fun _ h => h) (fun _ h => h) (fun _ h => h) (fun _ _ _ h => h)
      rcases hs7 with rfl | rfl
      · exact core.imp (fun _ h => h) (fun _ h => h.elim) (fun _ h => h.elim) (fun _ h => h.elim) (fun _ _ _ h => h.elim)
      · refine sv_frz 7 rfl ?_
        exact core.imp (fun _ h => h) (fun _ h => h.elim) (fun _ h => h.elim) (fun _ h => h.elim) (fun _ _ _ h => h.elim)
    · rintro _ ⟨sp, s7, s8, hsl, hso, hs7, rfl⟩
      have : row.getD (Int.toNat 17) 0 % 3 < 3 := by omega
      exact ⟨sp, _, _, by omega, hso, hs7, rfl⟩
  rintro _ ⟨sp, s7, s8, hsl, hso, hs7, rfl⟩
  dsimp only
  suffices hmain : SvD K E [.im (.scr ns), .im (dI row), .im (.int n), .im (dI acc), .im (dI gd), .im (dMs ms), .im (.lst (ws.map .str)), .im (dMs sp), s8, .no, .no, .no, .no, .no, .no, .no] _ _ by
    rcases hs7 with rfl | rfl
    · exact hmain
    · exact sv_frz 7 rfl hmain
  clear hs7 s7
  walk_at "pl_sv"
  refine sv_mid (fun ρ' => ρ' = [.im (.scr ns), .im (dI row), .im (.int n), .im (dI acc), .im (dI gd), .im (dMs ms), .im (.lst (ws.map .str)), .im (dMs sp), s8, .no, .no, .no, .no, .no, .no, .no]) ?_ ?_
  · refine sv_if (et_or (et_not (hh rfl rfl rfl rfl (few_of hn1 hn2 hacl (by omega) hso))) fun _ => et_not (hh rfl rfl rfl rfl (few_of hn1 hn2 hgl (by omega) hso))) (fun hb => by cases hb) fun _ => ?_
    walk_at "pl_sv"
    rfl
  rintro _ rfl
  dsimp only
  walk_at "pl_sv"
  walk_at "pl_sv"
  have hf1 : 1 ≤ min n 16 := by omega
  have hf2 : min n 16 ≤ 16 := by omega
  generalize min n 16 = f at hf1 hf2 ⊢
  let oth : List Mv := (ms.filter fun m => decide (m.1 < f) && decide (m.2.2 < f)).map fun m => (m.1, m.2.1, f - 1 - m.2.2)
  let kp : List Int := gd.filter fun s => decide (s < f)
  let mv : List Mv := ms.filter fun m => decide (max m.1 m.2.2 < f)
  have hoth : ∀ {ρ' : List Sl}, ρ'[5]? = some (.im (dMs ms)) → ρ'[9]? = some (.im (.int f)) → 11 < ρ'.length → 9 ≠ 11 → EvF K ρ' (tLc (iList K (tVar 5)) (gName 11) (tAnd (tTest (tOp qLtI (tOp (rIx K) (tVar 11) (tC (.int 0))) (tVar 9))) (tTest (tOp qLtI (tOp (rIx K) (tVar 11) (tC (.int 2))) (tVar 9)))) (tTup (tCons (tOp (rIx K) (tVar 11) (tC (.int 0))) (tCons (tOp (rIx K) (tVar 11) (tC (.int 1))) (tCons (tOp (qSubI) (tOp (qSubI) (tVar 9) (tC (.int 1))) (tOp (rIx K) (tVar 11) (tC (.int 2)))) (tNil))))) [11]) (dMs oth) := fun e5 e9 hl _ => by
    have := ef_lcL (K := K) (l := ms) (F := dM) (fun m => decide (m.1 < f) && decide (m.2.2 < f)) (fun m => dM (m.1, m.2.1, f - 1 - m.2.2)) (ev_var e5) (by omega) (v := 11) (tt := tAnd (tTest (tOp qLtI (tOp (rIx K) (tVar 11) (tC (.int 0))) (tVar 9))) (tTest (tOp qLtI (tOp (rIx K) (tVar 11) (tC (.int 2))) (tVar 9)))) (te := tTup (tCons (tOp (rIx K) (tVar 11) (tC (.int 0))) (tCons (tOp (rIx K) (tVar 11) (tC (.int 1))) (tCons (tOp (qSubI) (tOp (qSubI) (tVar 9) (tC (.int 1))) (tOp (rIx K) (tVar 11) (tC (.int 2)))) (tNil))))) fun m hm => by
      have q9 : (‹List Sl›.set 11 (.im (dM m)))[9]? = some (.im (.int f)) := by rw [List.getElem?_set_ne (by decide)]; exact e9
      have q11 : (‹List Sl›.set 11 (.im (dM m)))[11]? = some (.im (dM m)) := List.getElem?_set_self hl
      exact ⟨et_and (et_test (ev_op (EvD.b (ev_op (d1 := dM m) (d2 := .int 0) (EvD.b (ev_var q11)) (EvD.b ev_int) (ox_tup rfl))) (EvD.b (ev_var q9)) om_lt)) fun _ => et_test (ev_op (EvD.b (ev_op (d1 := dM m) (d2 := .int 2) (EvD.b (ev_var q11)) (EvD.b ev_int) (ox_tup rfl))) (EvD.b (ev_var q9)) om_lt),
        fun _ => ev_tup (ea_cons (ev_op (d1 := dM m) (d2 := .int 0) (EvD.b (ev_var q11)) (EvD.b ev_int) (ox_tup rfl)) (ea_cons (ev_op (d1 := dM m) (d2 := .int 1) (EvD.b (ev_var q11)) (EvD.b ev_int) (ox_tup rfl)) (ea_cons (ev_op (EvD.b (ev_op (EvD.b (ev_var q9)) (EvD.b ev_int) om_sub)) (EvD.b (ev_op (d1 := dM m) (d2 := .int 2) (EvD.b (ev_var q11)) (EvD.b ev_int) (ox_tup rfl))) om_sub) ea_nil))) (by simp)⟩
    have e : dMs oth = .lst (((ms.filter fun m => decide (m.1 < f) && decide (m.2.2 < f))).map fun m => dM (m.1, m.2.1, f - 1 - m.2.2)) := by
      simp only [dMs, oth, List.map_map]; rfl
    rw [e]; exact this
  have hmvE : ∀ {ρ' : List Sl}, ρ'[5]? = some (.im (dMs ms)) → ρ'[9]? = some (.im (.int f)) → 11 < ρ'.length → EvF K ρ' (tLc (iList K (tVar 5)) (gName 11) (tTest (tOp qLtI (tCB (qMax2) (tCons (tOp (rIx K) (tVar 11) (tC (.int 0))) (tCons (tOp (rIx K) (tVar 11) (tC (.int 2))) (tNil)))) (tVar 9))) (tVar 11) [11]) (dMs mv) := fun e5 e9 hl =>
    ef_lcL (K := K) (l := ms) (F := dM) (fun m => decide (max m.1 m.2.2 < f)) dM (ev_var e5) (by omega) (v := 11) fun m hm => by
      have q9 : (‹List Sl›.set 11 (.im (dM m)))[9]? = some (.im (.int f)) := by rw [List.getElem?_set_ne (by decide)]; exact e9
      have q11 : (‹List Sl›.set 11 (.im (dM m)))[11]? = some (.im (dM m)) := List.getElem?_set_self hl
      exact ⟨et_test (ev_op (EvD.b (ev_cb (eb_cons (EvD.b (ev_op (d1 := dM m) (d2 := .int 0) (EvD.b (ev_var q11)) (EvD.b ev_int) (ox_tup rfl))) (eb_cons (EvD.b (ev_op (d1 := dM m) (d2 := .int 2) (EvD.b (ev_var q11)) (EvD.b ev_int) (ox_tup rfl))) eb_nil)) c_max)) (EvD.b (ev_var q9)) om_lt), fun _ => ev_var q11⟩
  have hkpE : ∀ {ρ' : List Sl}, ρ'[4]? = some (.im (dI gd)) → ρ'[9]? = some (.im (.int f)) → 13 < ρ'.length → EvF K ρ' (tLc (iList K (tVar 4)) (gName 13) (tTest (tOp qLtI (tVar 13) (tVar 9))) (tVar 13) [13]) (dI kp) := fun e4 e9 hl =>
    ef_lcL (K := K) (l := gd) (F := D.int) (fun s => decide (s < f)) D.int (ev_var e4) (by omega) (v := 13) fun m hm => by
      have q9 : (‹List Sl›.set 13 (.im (.int m)))[9]? = some (.im (.int f)) := by rw [List.getElem?_set_ne (by decide)]; exact e9
      have q13 : (‹List Sl›.set 13 (.im (.int m)))[13]? = some (.im (.int m)) := List.getElem?_set_self hl
      exact ⟨et_test (ev_op (EvD.b (ev_var q13)) (EvD.b (ev_var q9)) om_lt), fun _ => ev_var q13⟩
  have hokA : ∀ m ∈ oth, okM f m = true := fun m hm => by
    obtain ⟨m', hm', rfl⟩ := List.mem_map.mp hm
    obtain ⟨h1, h2⟩ := List.mem_filter.mp hm'
    simp only [Bool.and_eq_true, decide_eq_true_eq] at h2
    exact okM_turn (hD.ok m' h1) h2.1 h2.2
  have hokB : ∀ m ∈ mv, okM f m = true := fun m hm => by
    obtain ⟨h1, h2⟩ := List.mem_filter.mp hm
    simp only [decide_eq_true_eq] at h2
    exact okM_less (hD.ok m h1) (by omega) (by omega)
  have hndA : (oth.map kM).Nodup := by
    have : oth.map kM = (ms.filter fun m => decide (m.1 < f) && decide (m.2.2 < f)).map kM := by simp only [oth, List.map_map]; rfl
    rw [this]
    exact hD.nd.sublist ((List.filter_sublist).map kM)
  have hndB : (mv.map kM).Nodup := hD.nd.sublist ((List.filter_sublist).map kM)
  have hlA : oth.length ≤ 450 := by simp only [oth, List.length_map]; exact Nat.le_trans (List.length_filter_le _ _) (by omega)
  have hlB : mv.length ≤ 450 := Nat.le_trans (List.length_filter_le _ _) (by omega)
  have hkl : kp.length < 40 := Nat.lt_of_le_of_lt (List.length_filter_le _ _) hgl
  have hka : kp.all (okSt f) = true := by
    rw [List.all_eq_true]
    intro x hx
    obtain ⟨h1, h2⟩ := List.mem_filter.mp hx
    have := List.all_eq_true.mp hgo x h1
    unfold okSt at this ⊢
    simp only [Bool.and_eq_true, decide_eq_true_eq] at this h2 ⊢
    exact ⟨this.1, h2⟩
  have hlast : [f - 1].all (okSt f) = true := by
    simp only [List.all_cons, List.all_nil, Bool.and_true, okSt, Bool.and_eq_true, decide_eq_true_eq]
    omega
  have fewA : Few f [f - 1] oth := few_of hf1 (by omega) (by simp) (by omega) fun m hm => okM_okS (hokA m hm)
  have fewB : Few f kp mv := few_of hf1 (by omega) hkl (by omega) fun m hm => okM_okS (hokB m hm)
  have moA : moOf f [f - 1] oth = .ok := moOf_ok hf2 hlast hokA hndA
  have moB : moOf f kp mv = .ok := moOf_ok hf2 hka hokB hndB
  walk_at "pl_sv"
  refine sv_setF (hoth rfl rfl (by simp) (by decide)) ?_
  clear_value oth kp mv
  walk_at "pl_nx"
  refine sv_frz 10 rfl ?_
  walk_at "pl_nx"
  walk_at "pl_sv"
  have mB : ∀ {ρ' : List Sl}, ρ'[4]? = some (.im (dI gd)) → ρ'[5]? = some (.im (dMs ms)) → ρ'[9]? = some (.im (.int f)) → 13 < ρ'.length → EvF K ρ' (tCall (spD K (R__law_made a)) [] E0 (tCons (tVar 9) (tCons (tLc (iList K (tVar 4)) (gName 13) (tTest (tOp qLtI (tVar 13) (tVar 9))) (tVar 13) [13]) (tCons (tLc (iList K (tVar 5)) (gName 11) (tTest (tOp qLtI (tCB (qMax2) (tCons (tOp (rIx K) (tVar 11) (tC (.int 0))) (tCons (tOp (rIx K) (tVar 11) (tC (.int 2))) (tNil)))) (tVar 9))) (tVar 11) [11]) (tNil))))) (.lst [.lst [.str "machine", .int 0], machD a f kp mv]) := fun e4 e5 e9 hl =>
    ef_call (ea_cons (ev_var e9) (ea_cons (EvF.im (hkpE e4 e9 hl)) (ea_cons (EvF.im (hmvE e5 e9 (by omega))) ea_nil))) ⟨f, kp, mv, rfl, fewB, by rw [moB]; rfl⟩
  refine sv_setF (mB rfl rfl rfl (by simp)) ?_
  walk_at "pl_nx"
  refine sv_frz 12 rfl ?_
  walk_at "pl_nx"
  walk_at "pl_sv"
  have mA : ∀ {ρ' : List Sl}, ρ'[10]? = some (.im (dMs oth)) → ρ'[9]? = some (.im (.int f)) → EvF K ρ' (tCall (spD K (R__law_made a)) [] E0 (tCons (tVar 9) (tCons (tLst (tCons (tOp (qSubI) (tVar 9) (tC (.int 1))) (tNil))) (tCons (tVar 10) (tNil))))) (.lst [.lst [.str "machine", .int 0], machD a f [f - 1] oth]) := fun e10 e9 =>
    ef_call (ea_cons (ev_var e9) (ea_cons (EvF.im (ef_lst (ea_cons (ev_op (EvD.b (ev_var e9)) (EvD.b ev_int) om_sub) ea_nil) (by simp))) (ea_cons (ev_var e10) ea_nil))) ⟨f, [f - 1], oth, rfl, fewA, by rw [moA]; rfl⟩
  refine sv_setF (mA rfl rfl) ?_
  walk_at "pl_nx"
  refine sv_frz 14 rfl ?_
  walk_at "pl_nx"
  walk_at "pl_sv"
  have gm : good 60 (.lst [.str "machine", .int 0]) := by
    intro d hd
    simp only [List.mem_cons, List.not_mem_nil, or_false] at hd
    rcases hd with rfl | rfl
    · show PySem.PyData.strOk _ = true; decide +kernel
    · trivial
  have pm : pure_ 60 (.lst [.str "machine", .int 0]) := by
    intro d hd
    simp only [List.mem_cons, List.not_mem_nil, or_false] at hd
    rcases hd with rfl | rfl <;> trivial
  have ht : ∀ {ρ' : List Sl} {j : Nat} {x : D}, ρ'[j]? = some (.im (.lst [.lst [.str "machine", .int 0], x])) → EvT K ρ' (tTest (tOp (rNeU K) (tOp (rIx K) (tVar j) (tC (.int 0))) (tLst (tCons (tC (.str "machine")) (tCons (tC (.int 0)) (tNil)))))) false := fun e => by
    have := et_test (ev_op (EvD.b (ev_op (d2 := .int 0) (EvD.b (ev_var e)) (EvD.b ev_int) (ox_lst rfl))) (EvD.b (EvF.im (ef_lst (ea_cons ev_str (ea_cons ev_int ea_nil)) (by simp)))) (on_pure (K := K) gm gm pm pm))
    simpa using this
  refine sv_mid (fun ρ' => ρ' = [.im (.scr ns), .im (dI row), .im (.int n), .im (dI acc), .im (dI gd), .im (dMs ms), .im (.lst (ws.map .str)), .im (dMs sp), s8, .im (.int f), .im (dMs oth), .no, .im (.lst [.lst [.str "machine", .int 0], machD a f kp mv]), .no, .im (.lst [.lst [.str "machine", .int 0], machD a f [f - 1] oth]), .no]) ?_ ?_
  · refine sv_if (et_or (ht rfl) fun _ => ht rfl) (fun hb => by cases hb) fun _ => ?_
    walk_at "pl_sv"
    rfl
  rintro _ rfl
  dsimp only
  walk_at "pl_sv"
  refine sv_setF (hkpE rfl rfl (by simp)) ?_
  walk_at "pl_nx"
  refine sv_frz 15 rfl ?_
  walk_at "pl_nx"
  walk_at "pl_sv"
  refine sv_for (it_range (n := 2) ev_int (by omega) (by omega)) (fun i ρ' => ∃ s8, ρ' = [.im (.scr ns), .im (dI row), .im (.int n), .im (dI acc), .im (dI gd), .im (dMs ms), .im (.lst (ws.map .str)), .im (dMs sp), s8, .im (.int f), .im (dMs oth), .no, .im (.lst [.lst [.str "machine", .int 0], machD a f kp mv]), .no, .im (.lst [.lst [.str "machine", .int 0], machD a f [f - 1] oth]), .im (dI kp)]) ⟨_, rfl⟩ ?_ ?_
  · rintro i _ hi ⟨s8, rfl⟩
    refine ⟨_, tg_name, ?_⟩
    walk_at "pl_nx"
    walk_at "pl_sv"
    refine sv_mid (fun ρ' => ρ' = [.im (.scr ns), .im (dI row), .im (.int n), .im (dI acc), .im (dI gd), .im (dMs ms), .im (.lst (ws.map .str)), .im (dMs sp), .im (.int (i : Int)), .im (.int f), .im (dMs oth), .no, .im (.lst [.lst [.str "machine", .int 0], machD a f kp mv]), .no, .im (.lst [.lst [.str "machine", .int 0], machD a f [f - 1] oth]), .im (dI kp)]) ?_ ?_
    · refine sv_if (et_not (et_B (ev_call (d := .bl true) (ea_cons (ev_op (d1 := .lst [.lst [.str "machine", .int 0], machD a f [f - 1] oth]) (d2 := .int 1) (EvD.b (ev_var rfl)) (EvD.b ev_int) (ox_lst rfl)) (ea_cons (ev_var rfl) (ea_cons (EvF.im (ef_lst (ea_cons (ev_op (EvD.b (ev_var rfl)) (EvD.b ev_int) om_sub) ea_nil) (by simp))) (ea_cons (ev_var rfl) (ea_cons (ev_var rfl) ea_nil))))) ⟨f, [f - 1], oth, ws, rfl, fewA, hlast, hw, rfl⟩))) (fun hb => by cases hb) fun _ => ?_
      walk_at "pl_sv"
      rfl
    rintro _ rfl
    dsimp only
    refine sv_if (et_not (et_B (ev_call (d := .bl true) (ea_cons (ev_op (d1 := .lst [.lst [.str "machine", .int 0], machD a f kp mv]) (d2 := .int 1) (EvD.b (ev_var rfl)) (EvD.b ev_int) (ox_lst rfl)) (ea_cons (ev_var rfl) (ea_cons (ev_var rfl) (ea_cons (EvF.im (hmvE rfl rfl (by simp))) (ea_cons (ev_var rfl) ea_nil))))) ⟨f, kp, mv, ws, rfl, fewB, hka, hw, rfl⟩))) (fun hb => by cases hb) fun _ => ?_
    walk_at "pl_sv"
    exact ⟨_, rfl⟩
  · rintro _ ⟨s8, rfl⟩
    walk_at "pl_go"
    rfl
end
end K66

set_option Elab.async false
set_option linter.all false
set_option maxRecDepth 100000
set_option maxHeartbeats 1000000
namespace K66
open PySem PySem.Spec PyProof.Rows L2 PL
section
variable {a : Adr} {o0 : O} {ds : List D} {o : Out} {oi : OutI} {P : Sl → Prop}
theorem R_is_state_len (h : R_is_state a ds o) : ds.length = 2 := by obtain ⟨_, _, rfl, _⟩ := h; rfl
theorem R_Machine_init_len (h : R_Machine_init a o0 ds oi) : ds.length = 3 := by obtain ⟨_, _, _, _, rfl, _⟩ := h; rfl
theorem R_Machine_state_after_len (h : R_Machine_state_after a ds o) : ds.length = 3 := by obtain ⟨_, _, _, _, _, rfl, _⟩ := h; rfl
theorem R_Machine_callm_len (h : R_Machine_callm a ds o) : ds.length = 2 := by obtain ⟨_, _, _, _, rfl, _⟩ := h; rfl
theorem R__law_row_len (h : R__law_row a ds o) : ds.length = 2 := by obtain ⟨_, _, rfl, _⟩ := h; rfl
theorem R__law_same_len (h : R__law_same a ds o) : ds.length = 2 := by obtain ⟨_, rfl, _⟩ := h; rfl
theorem R__law_drawn_moves_len (h : R__law_drawn_moves a ds P) : ds.length = 3 := by obtain ⟨_, _, _, rfl, _⟩ := h; rfl
theorem R__law_spoilt_len (h : R__law_spoilt a ds P) : ds.length = 3 := by obtain ⟨_, _, _, rfl, _⟩ := h; rfl
theorem R__law_first_bad_len (h : R__law_first_bad a ds o) : ds.length = 2 := by obtain ⟨_, _, rfl, _⟩ := h; rfl
theorem R__law_due_len (h : R__law_due a ds o) : ds.length = 3 := by obtain ⟨_, _, _, rfl, _⟩ := h; rfl
theorem R__law_made_len (h : R__law_made a ds o) : ds.length = 3 := by obtain ⟨_, _, _, rfl, _⟩ := h; rfl
theorem R__law_table_len (h : R__law_table a ds o) : ds.length = 1 := by obtain ⟨_, rfl, _⟩ := h; rfl
theorem R__law_reads_len (h : R__law_reads a ds o) : ds.length = 5 := by obtain ⟨_, _, _, _, rfl, _⟩ := h; rfl
theorem R__law_words_len (h : R__law_words a ds P) : ds.length = 2 := by obtain ⟨_, _, rfl, _⟩ := h; rfl
theorem R__law_world_len (h : R__law_world a ds P) : ds.length = 1 := by obtain ⟨_, rfl, _⟩ := h; rfl
theorem R__law_holds_len (h : R__law_holds a ds o) : ds.length = 4 := by obtain ⟨_, _, _, _, rfl, _⟩ := h; rfl
theorem R_law_len (h : R_law a ds o) : ds.length = 1 := by obtain ⟨_, rfl, _⟩ := h; rfl
end
end K66

set_option Elab.async false
set_option linter.all false
set_option maxRecDepth 100000
set_option maxHeartbeats 4000000
namespace K66
open PySem PySem.Spec PyProof.Rows L2 PL

def top (i : Nat) : Stmt := PySem.Challenge.pw_adjoinedtongues_k66_machines_read_string.main.body.getD i (.Pass ⟨0, 0, 0, 0⟩)
abbrev s_is_state : Stmt := top 7
abbrev s_Machine_init : Stmt := inClass (top 8) 0
abbrev s_Machine_state_after : Stmt := inClass (top 8) 1
abbrev s_Machine_callm : Stmt := inClass (top 8) 2
abbrev s__law_row : Stmt := top 10
abbrev s__law_same : Stmt := top 11
abbrev s__law_drawn_moves : Stmt := top 12
abbrev s__law_spoilt : Stmt := top 13
abbrev s__law_first_bad : Stmt := top 14
abbrev s__law_due : Stmt := top 15
abbrev s__law_made : Stmt := top 16
abbrev s__law_table : Stmt := top 17
abbrev s__law_reads : Stmt := top 18
abbrev s__law_words : Stmt := top 19
abbrev s__law_world : Stmt := top 20
abbrev s__law_holds : Stmt := top 21
abbrev s_law : Stmt := top 22
theorem sc_is_state : FnScope ["state", "states"] ["state", "states"] (defScope s_is_state) := ⟨rfl, rfl, rfl, by decide +kernel, rfl, by decide +kernel, by decide +kernel⟩
theorem sc_Machine_init : FnScope ["self", "states", "accepting", "moves", "state", "place", "letter", "after", "bad"] ["self", "states", "accepting", "moves"] (defScope s_Machine_init) := ⟨rfl, rfl, rfl, by decide +kernel, rfl, by decide +kernel, by decide +kernel⟩
theorem sc_Machine_state_after : FnScope ["self", "text", "state", "here", "letter"] ["self", "text", "state"] (defScope s_Machine_state_after) := ⟨rfl, rfl, rfl, by decide +kernel, rfl, by decide +kernel, by decide +kernel⟩
theorem sc_Machine_callm : FnScope ["self", "text"] ["self", "text"] (defScope s_Machine_callm) := ⟨rfl, rfl, rfl, by decide +kernel, rfl, by decide +kernel, by decide +kernel⟩
theorem sc__law_row : FnScope ["script", "many", "rest", "row", "mixed", "k", "cell"] ["script", "many"] (defScope s__law_row) := ⟨rfl, rfl, rfl, by decide +kernel, rfl, by decide +kernel, by decide +kernel⟩
theorem sc__law_same : FnScope ["told", "due", "waiting", "k", "one", "two", "at"] ["told", "due"] (defScope s__law_same) := ⟨rfl, rfl, rfl, by decide +kernel, rfl, by decide +kernel, by decide +kernel⟩
theorem sc__law_drawn_moves : FnScope ["row", "states", "many", "letters", "moves", "state", "k", "drawn", "turn"] ["row", "states", "many"] (defScope s__law_drawn_moves) := ⟨rfl, rfl, rfl, by decide +kernel, rfl, by decide +kernel, by decide +kernel⟩
theorem sc__law_spoilt : FnScope ["moves", "states", "row", "place", "letter", "state", "ways", "pair", "way", "bad", "earlier"] ["moves", "states", "row"] (defScope s__law_spoilt) := ⟨rfl, rfl, rfl, by decide +kernel, rfl, by decide +kernel, by decide +kernel⟩
theorem sc__law_first_bad : FnScope ["states", "moves", "seen", "place", "state", "letter", "after"] ["states", "moves"] (defScope s__law_first_bad) := ⟨rfl, rfl, rfl, by decide +kernel, rfl, by decide +kernel, by decide +kernel⟩
theorem sc__law_due : FnScope ["states", "accepting", "moves", "state", "place"] ["states", "accepting", "moves"] (defScope s__law_due) := ⟨rfl, rfl, rfl, by decide +kernel, rfl, by decide +kernel, by decide +kernel⟩
theorem sc__law_made : FnScope ["states", "accepting", "moves", "handed", "machine", "told", "e"] ["states", "accepting", "moves"] (defScope s__law_made) := ⟨rfl, rfl, rfl, by decide +kernel, rfl, by decide +kernel, by decide +kernel⟩
theorem sc__law_table : FnScope ["moves", "table", "move"] ["moves"] (defScope s__law_table) := ⟨rfl, rfl, rfl, by decide +kernel, rfl, by decide +kernel, by decide +kernel⟩
theorem sc__law_reads : FnScope ["machine", "states", "accepting", "moves", "words", "ascending", "state", "table", "word", "here", "letter"] ["machine", "states", "accepting", "moves", "words"] (defScope s__law_reads) := ⟨rfl, rfl, rfl, by decide +kernel, rfl, by decide +kernel, by decide +kernel⟩
theorem sc__law_words : FnScope ["row", "many", "letters", "words", "k", "word", "at"] ["row", "many"] (defScope s__law_words) := ⟨rfl, rfl, rfl, by decide +kernel, rfl, by decide +kernel, by decide +kernel⟩
theorem sc__law_world : FnScope ["row", "states", "many", "accepting", "k", "good", "moves"] ["row"] (defScope s__law_world) := ⟨rfl, rfl, rfl, by decide +kernel, rfl, by decide +kernel, by decide +kernel⟩
theorem sc__law_holds : FnScope ["states", "accepting", "moves", "words", "due", "told", "machine"] ["states", "accepting", "moves", "words"] (defScope s__law_holds) := ⟨rfl, rfl, rfl, by decide +kernel, rfl, by decide +kernel, by decide +kernel⟩
theorem sc_law : FnScope ["script", "row", "states", "accepting", "good", "moves", "words", "spoilt", "k", "few", "other", "move", "first", "state", "second", "kept"] ["script"] (defScope s_law) := ⟨rfl, rfl, rfl, by decide +kernel, rfl, by decide +kernel, by decide +kernel⟩

structure Txt (P : Program) (w : World) (K : PySem.W.Frag) (mg : Str → Option Value) (base : Heap) (a : Adr) : Prop where
  hw : w = a.w
  kf : Kf K a
  n_len : mg "len" = none
  n_int : mg "int" = none
  n_min : mg "min" = none
  n_max : mg "max" = none
  n_range : mg "range" = none
  n_isinstance : mg "isinstance" = none
  n_list : mg "list" = none
  n_tuple : mg "tuple" = none
  n_bool : mg "bool" = none
  n_str : mg "str" = none
  n_set : mg "set" = none
  n_sorted : mg "sorted" = none
  n_enumerate : mg "enumerate" = none
  n_ValueError : mg "ValueError" = none
  n_super : mg "super" = none
  g_LETTERS : ∃ t, mg "LETTERS" = some (.str "abcdefghijklmnopqrstuvwxyz" t)
  g_MOST_STATES : ∃ t, mg "MOST_STATES" = some (.int 16 t)
  g_Fault : mg "Fault" = some (.ref a.c_Fault)
  g_TooMany : mg "TooMany" = some (.ref a.c_TooMany)
  g_BadMachine : mg "BadMachine" = some (.ref a.c_BadMachine)
  x_TooMany : ∃ fI, PySem.FltX.Flt P K a.c_TooMany fI "limit"
  x_BadMachine : ∃ fI, PySem.FltX.Flt P K a.c_BadMachine fI "place"
  xf_TooMany : XfC K a.c_TooMany
  xn_TooMany_limit : PySem.W.findIn K (.ref a.c_TooMany) "limit" = some none
  xf_BadMachine : XfC K a.c_BadMachine
  xn_BadMachine_place : PySem.W.findIn K (.ref a.c_BadMachine) "place" = some none
theorem Txt.k_Machine {P : Program} {w : World} {K : PySem.W.Frag} {mg : Str → Option Value} {base : Heap} {a : Adr} (T : Txt P w K mg base a) : Cls K a.c_Machine := T.kf.cM

theorem ok_is_state {P : Program} {w : World} {K : PySem.W.Frag} {mg : Str → Option Value} {base : Heap} {f : Addr} {fd : FuncData} {a : Adr} (T : Txt P w K mg base a) (F : Fun K "is_state" "is_state" s_is_state f fd) : FnOk P w K mg base CX0 1 f fd ["state", "states"] (spD K (R_is_state a)) := by
  have hw := T.hw
  subst hw
  refine fn_ok F sc_is_state (fun ds o h => R_is_state_len h) (fun cdv A outer s H E hr => ⟨t_is_state K a E, ?_, fun ds o h => r_is_state T.kf h⟩)
  exact
    pss_one (ps_ret (pe_chain op_le op_lt (pe_int) (pv 0) (pv 1)))
theorem ok_Machine_init {P : Program} {w : World} {K : PySem.W.Frag} {mg : Str → Option Value} {base : Heap} {f : Addr} {fd : FuncData} {a : Adr} (T : Txt P w K mg base a) (F : Fun K "__init__" "Machine.__init__" s_Machine_init f fd)
    (g_is_state : GFn P w K mg base CX0 1 "is_state" ["state", "states"] [] (spD K (R_is_state a))) : FnOk P w K mg base (L2.CX P w) 2 f fd ["self", "states", "accepting", "moves"] (spI K (R_Machine_init a)) := by
  have hw := T.hw
  subst hw
  refine fnI_okX F sc_Machine_init (fun o0 ds o h => R_Machine_init_len h) (fun cdv A outer s H E hr => ⟨t_Machine_init K a E, ?_, fun x o0 ds o h => r_Machine_init T.kf h⟩)
  exact
    pss_cons (ps_if (pt_cmpR op_gt (pv 1) (pe_glob rfl T.g_MOST_STATES.choose_spec ⟨_, rfl⟩) (nomark _)) (pss_one (ps_raiseF (k := 0) rfl T.x_TooMany.choose_spec T.g_TooMany (hr.mono (by decide)) T.n_super (takes_of rfl rfl rfl rfl) (pa_cons (pe_glob rfl T.g_MOST_STATES.choose_spec ⟨_, rfl⟩) (pa_nil)))) (pss_nil))
    (pss_cons (ps_for (passes_of rfl) rfl (pi_list (pv 2)) (pg_name (i := 4) sc_Machine_init.nd rfl (by first | exact Or.inl rfl | exact Or.inr rfl)) (pss_one (ps_if (pt_not (pt_val (pe_gcall g_is_state (hr.mono (by decide)) .nil pass0 (pa_cons (pv 4) (pa_cons (pv 1) (pa_nil)))))) (pss_one (ps_raiseF (k := 0) rfl T.x_BadMachine.choose_spec T.g_BadMachine (hr.mono (by decide)) T.n_super (takes_of rfl rfl rfl rfl) (pa_cons (pe_un un_neg (pe_int)) (pa_nil)))) (pss_nil))))
    (pss_cons (ps_fld (pv 0) (pv 1) rfl)
    (pss_cons (ps_fld (pv 0) (pe_callTy call_tuple_of (by rfl) T.n_tuple b_tuple (pa_cons (pe_callB (cr_sortedSet rfl) (by rfl) T.n_sorted b_sorted (pa_cons (pe_callTy (call_setI rfl) (by rfl) T.n_set b_set (pa_cons (pv 2) (pa_nil))) (pa_nil))) (pa_nil))) rfl)
    (pss_cons (ps_fld (pv 0) (pe_callTy call_tuple_of (by rfl) T.n_tuple b_tuple (pa_cons (pv 3) (pa_nil))) rfl)
    (pss_cons (ps_fld (pv 0) (pe_dnewT) rfl)
    (pss_one (ps_for (passes_of rfl) rfl (pi_enumT rfl T.n_enumerate (pa_cons (pe_fld (pv 0) rfl) (pa_nil))) (pg_tup rfl (pgs_cons (pg_name (i := 5) sc_Machine_init.nd rfl (by first | exact Or.inl rfl | exact Or.inr rfl)) (pgs_cons (pg_tup rfl (pgs_cons (pg_name (i := 4) sc_Machine_init.nd rfl (by first | exact Or.inl rfl | exact Or.inr rfl)) (pgs_cons (pg_name (i := 6) sc_Machine_init.nd rfl (by first | exact Or.inl rfl | exact Or.inr rfl)) (pgs_cons (pg_name (i := 7) sc_Machine_init.nd rfl (by first | exact Or.inl rfl | exact Or.inr rfl)) (pgs_nil))))) (pgs_nil)))) (pss_cons (ps_set (i := 8) sc_Machine_init.nd rfl (by first | exact Or.inl rfl | exact Or.inr rfl) (pe_or (pe_not (pe_gcall g_is_state (hr.mono (by decide)) .nil pass0 (pa_cons (pv 4) (pa_cons (pv 1) (pa_nil))))) (pe_one (pe_not (pe_gcall g_is_state (hr.mono (by decide)) .nil pass0 (pa_cons (pv 7) (pa_cons (pv 1) (pa_nil))))))))
      (pss_cons (ps_if (PW.pt (pw_or (pt_val (pv 8)) (pw_or (pt_cmpR (op_neU hr.units) (pe_callB call_len (by rfl) T.n_len b_len (pa_cons (pv 6) (pa_nil))) (pe_int) (nomark _)) (pw_or (pt_cmpR op_ninU (pv 6) (pe_glob rfl T.g_LETTERS.choose_spec ⟨_, rfl⟩) (by with_unfolding_all rfl)) (pw_or1 (pt_cmp (pc_din (hu_of hr) (pe_tup (pa_cons (pv 4) (pa_cons (pv 6) (pa_nil)))) (pe_fld (pv 0) rfl)) rfl)))))) (pss_one (ps_raiseF (k := 0) rfl T.x_BadMachine.choose_spec T.g_BadMachine (hr.mono (by decide)) T.n_super (takes_of rfl rfl rfl rfl) (pa_cons (pv 5) (pa_nil)))) (pss_nil))
      (pss_one (ps_dput (hu_of hr) (pe_fld (pv 0) rfl) (pe_tup (pa_cons (pv 4) (pa_cons (pv 6) (pa_nil)))) (pv 7) rfl)))))))))))
theorem ok_Machine_state_after {P : Program} {w : World} {K : PySem.W.Frag} {mg : Str → Option Value} {base : Heap} {f : Addr} {fd : FuncData} {a : Adr} (T : Txt P w K mg base a) (F : FunD K "state_after" "Machine.state_after" (defArgs s_Machine_state_after) (defBody s_Machine_state_after) (defScope s_Machine_state_after) [.int 0] [] f fd) : FnOk P w K mg base CX0 1 f fd ["self", "text", "state"] (spD K (R_Machine_state_after a)) := by
  have hw := T.hw
  subst hw
  refine fn_okD F sc_Machine_state_after (fun ds o h => R_Machine_state_after_len h) (fun cdv A outer s H E hr => ⟨t_Machine_state_after K a E, ?_, fun ds o h => r_Machine_state_after T.kf h⟩)
  exact
    pss_cons (ps_set (i := 3) sc_Machine_state_after.nd rfl (by first | exact Or.inl rfl | exact Or.inr rfl) (pv 2))
    (pss_cons (ps_for PassesOwn.never rfl (pi_str (pv 1)) (pg_name (i := 4) sc_Machine_state_after.nd rfl (by first | exact Or.inl rfl | exact Or.inr rfl)) (pss_one (ps_set (i := 3) sc_Machine_state_after.nd rfl (by first | exact Or.inl rfl | exact Or.inr rfl) (pe_dget2 (hu_of hr) (pe_fld (pv 0) rfl) (pe_tup (pa_cons (pv 3) (pa_cons (pv 4) (pa_nil)))) (pe_un un_neg (pe_int)) (⟨rfl, rfl, rfl, rfl⟩)))))
    (pss_one (ps_ret (pv 3))))
theorem ok_Machine_callm {P : Program} {w : World} {K : PySem.W.Frag} {mg : Str → Option Value} {base : Heap} {f : Addr} {fd : FuncData} {a : Adr} (T : Txt P w K mg base a) (F : Fun K "__call__" "Machine.__call__" s_Machine_callm f fd)
    (m_Machine_state_after1 : MFn P w K mg base CX0 1 a.c_Machine "state_after" ["self", "text", "state"] [.int 0] (spD K (R_Machine_state_after a))) : FnOk P w K mg base CX0 2 f fd ["self", "text"] (spD K (R_Machine_callm a)) := by
  have hw := T.hw
  subst hw
  refine fn_ok F sc_Machine_callm (fun ds o h => R_Machine_callm_len h) (fun cdv A outer s H E hr => ⟨t_Machine_callm K a E, ?_, fun ds o h => r_Machine_callm T.kf h⟩)
  exact
    pss_one (ps_ret (pe_cmpR op_inU (pe_mcall (pv 0) T.k_Machine m_Machine_state_after1 (hr.mono (by decide)) pass0 (pa_cons (pv 1) (pa_nil))) (pe_fld (pv 0) rfl) (by with_unfolding_all rfl)))
theorem ok__law_row {P : Program} {w : World} {K : PySem.W.Frag} {mg : Str → Option Value} {base : Heap} {f : Addr} {fd : FuncData} {a : Adr} (T : Txt P w K mg base a) (F : Fun K "_law_row" "_law_row" s__law_row f fd) : FnOk P w K mg base CX0 1 f fd ["script", "many"] (spD K (R__law_row a)) := by
  have hw := T.hw
  subst hw
  refine fn_ok F sc__law_row (fun ds o h => R__law_row_len h) (fun cdv A outer s H E hr => ⟨t__law_row K a E, ?_, fun ds o h => r__law_row T.kf h⟩)
  unfold t__law_row tc__law_row
  exact
    pss_cons (ps_set (i := 2) sc__law_row.nd rfl (by first | exact Or.inl rfl | exact Or.inr rfl) (pe_int))
    (pss_cons (ps_if (PW.pt (pw_and (pt_cmpR op_gt (pe_callB call_len (by rfl) T.n_len b_len (pa_cons (pv 0) (pa_nil))) (pe_int) (nomark _)) (pw_and1 (pt_cmpR op_ge (pe_ix ix_seq (pv 0) (pe_int) (fun _ _ => rfl)) (pe_op op_pow (pe_int) (pe_int)) (nomark _))))) (pss_one (ps_set (i := 2) sc__law_row.nd rfl (by first | exact Or.inl rfl | exact Or.inr rfl) (pe_ix ix_seq (pv 0) (pe_int) (fun _ _ => rfl)))) (pss_nil))
    (pss_cons (ps_set (i := 3) sc__law_row.nd rfl (by first | exact Or.inl rfl | exact Or.inr rfl) (pe_lst (pa_nil)))
    (pss_cons (ps_set (i := 4) sc__law_row.nd rfl (by first | exact Or.inl rfl | exact Or.inr rfl) (pe_int))
    (pss_cons (ps_for PassesOwn.never rfl (pi_range1 rfl T.n_range (pa_cons (pv 1) (pa_nil))) (pg_name (i := 5) sc__law_row.nd rfl (by first | exact Or.inl rfl | exact Or.inr rfl)) (pss_cons (ps_set (i := 6) sc__law_row.nd rfl (by first | exact Or.inl rfl | exact Or.inr rfl) (pv 5))
      (pss_cons (ps_if (pt_cmpR op_gt (pe_callB call_len (by rfl) T.n_len b_len (pa_cons (pv 0) (pa_nil))) (pe_int) (nomark _)) (pss_one (ps_set (i := 6) sc__law_row.nd rfl (by first | exact Or.inl rfl | exact Or.inr rfl) (pe_ix ix_seq (pv 0) (pe_op op_mod (pe_callTy call_int1 (by rfl) T.n_int b_int (pa_cons (pv 5) (pa_nil))) (pe_callB (call_min2 rfl) (by rfl) T.n_min b_min (pa_cons (pe_callB call_len (by rfl) T.n_len b_len (pa_cons (pv 0) (pa_nil))) (pa_cons (pe_int) (pa_nil))))) (fun _ _ => rfl)))) (pss_nil))
      (pss_cons (ps_set (i := 4) sc__law_row.nd rfl (by first | exact Or.inl rfl | exact Or.inr rfl) (pe_op op_mod (pe_callTy call_int1 (by rfl) T.n_int b_int (pa_cons (pe_op op_addU (pe_op op_addU (pe_op op_mulU (pv 4) (pe_int)) (pe_op op_mulU (pe_op op_mod (pe_callTy call_int1 (by rfl) T.n_int b_int (pa_cons (pv 6) (pa_nil))) (pe_int)) (pe_int))) (pe_op op_mulU (pv 5) (pe_int))) (pa_nil))) (pe_int)))
      (pss_one (ps_if (pt_cmpR op_gt (pv 2) (pe_int) (nomark _)) (pss_cons (ps_expr (pe_bm PySem.F.plainAttrs_list PySem.F.slot_list_append PySem.F.type_list_append mt_append (pv 3) (pa_cons (pe_op op_mod (pe_callTy call_int1 (by rfl) T.n_int b_int (pa_cons (pv 2) (pa_nil))) (pe_int)) (pa_nil))))
        (pss_one (ps_set (i := 2) sc__law_row.nd rfl (by first | exact Or.inl rfl | exact Or.inr rfl) (pe_op op_fdiv (pv 2) (pe_int))))) (pss_one (ps_expr (pe_bm PySem.F.plainAttrs_list PySem.F.slot_list_append PySem.F.type_list_append mt_append (pv 3) (pa_cons (pe_op op_mod (pe_callTy call_int1 (by rfl) T.n_int b_int (pa_cons (pe_op op_fdiv (pv 4) (pe_int)) (pa_nil))) (pe_int)) (pa_nil)))))))))))
    (pss_one (ps_ret (pv 3)))))))
theorem ok__law_same {P : Program} {w : World} {K : PySem.W.Frag} {mg : Str → Option Value} {base : Heap} {f : Addr} {fd : FuncData} {a : Adr} (T : Txt P w K mg base a) (F : Fun K "_law_same" "_law_same" s__law_same f fd) : FnOk P w K mg base CX0 1 f fd ["told", "due"] (spD K (R__law_same a)) := by
  have hw := T.hw
  subst hw
  refine fn_ok F sc__law_same (fun ds o h => R__law_same_len h) (fun cdv A outer s H E hr => ⟨t__law_same K a E, ?_, fun ds o h => r__law_same T.kf h⟩)
  unfold t__law_same tc__law_same
  exact
    pss_cons (ps_set (i := 2) sc__law_same.nd rfl (by first | exact Or.inl rfl | exact Or.inr rfl) (pe_lst (pa_cons (pe_tup (pa_cons (pv 0) (pa_cons (pv 1) (pa_nil)))) (pa_nil))))
    (pss_cons (ps_for PassesOwn.never rfl (pi_range1 rfl T.n_range (pa_cons (pe_int) (pa_nil))) (pg_name (i := 3) sc__law_same.nd rfl (by first | exact Or.inl rfl | exact Or.inr rfl)) (pss_cons (ps_if (pt_cmpR (op_eqU hr.units) (pv 2) (pe_lst (pa_nil)) (nomark _)) (pss_one (ps_ret (pe_bl))) (pss_nil))
      (pss_cons (ps_asg (pe_bm0 PySem.F.plainAttrs_list PySem.F.slot_list_pop PySem.F.type_list_pop mt_pop (pv 2)) (pg_tup rfl (pgs_cons (pg_name (i := 4) sc__law_same.nd rfl (by first | exact Or.inl rfl | exact Or.inr rfl)) (pgs_cons (pg_name (i := 5) sc__law_same.nd rfl (by first | exact Or.inl rfl | exact Or.inr rfl)) (pgs_nil)))))
      (pss_one (ps_if (pt_cmpR op_isN1 (pv 5) pe_non (nomark _)) (pss_one (ps_if (pt_cmpR op_notN1 (pv 4) pe_non (nomark _)) (pss_one (ps_ret (pe_bl))) (pss_nil))) (pss_one (ps_if (pt_val (pe_callB call_isi (by rfl) T.n_isinstance b_isinstance (pa_cons (pv 5) (pa_cons (pe_bltn rfl T.n_bool b_bool rfl) (pa_nil))))) (pss_one (ps_if (PW.pt (pw_or (pt_not (pt_val (pe_callB call_isi (by rfl) T.n_isinstance b_isinstance (pa_cons (pv 4) (pa_cons (pe_bltn rfl T.n_bool b_bool rfl) (pa_nil)))))) (pw_or1 (pt_cmpR (op_neU hr.units) (pv 4) (pv 5) (nomark _))))) (pss_one (ps_ret (pe_bl))) (pss_nil))) (pss_one (ps_if (pt_val (pe_callB call_isi (by rfl) T.n_isinstance b_isinstance (pa_cons (pv 5) (pa_cons (pe_bltn rfl T.n_int b_int rfl) (pa_nil))))) (pss_one (ps_if (PW.pt (pw_or (pt_not (pt_val (pe_callB call_isi (by rfl) T.n_isinstance b_isinstance (pa_cons (pv 4) (pa_cons (pe_bltn rfl T.n_int b_int rfl) (pa_nil)))))) (pw_or (pt_val (pe_callB call_isi (by rfl) T.n_isinstance b_isinstance (pa_cons (pv 4) (pa_cons (pe_bltn rfl T.n_bool b_bool rfl) (pa_nil))))) (pw_or1 (pt_cmpR (op_neU hr.units) (pv 4) (pv 5) (nomark _)))))) (pss_one (ps_ret (pe_bl))) (pss_nil))) (pss_one (ps_if (pt_val (pe_callB call_isi (by rfl) T.n_isinstance b_isinstance (pa_cons (pv 5) (pa_cons (pe_bltn rfl T.n_str b_str rfl) (pa_nil))))) (pss_one (ps_if (PW.pt (pw_or (pt_not (pt_val (pe_callB call_isi (by rfl) T.n_isinstance b_isinstance (pa_cons (pv 4) (pa_cons (pe_bltn rfl T.n_str b_str rfl) (pa_nil)))))) (pw_or1 (pt_cmpR (op_neU hr.units) (pv 4) (pv 5) (nomark _))))) (pss_one (ps_ret (pe_bl))) (pss_nil))) (pss_cons (ps_if (PW.pt (pw_or (pt_cmpR (op_neU hr.units) (pe_callB call_isi (by rfl) T.n_isinstance b_isinstance (pa_cons (pv 4) (pa_cons (pe_bltn rfl T.n_list b_list rfl) (pa_nil)))) (pe_callB call_isi (by rfl) T.n_isinstance b_isinstance (pa_cons (pv 5) (pa_cons (pe_bltn rfl T.n_list b_list rfl) (pa_nil)))) (nomark _)) (pw_or1 (pt_cmpR (op_neU hr.units) (pe_callB call_isi (by rfl) T.n_isinstance b_isinstance (pa_cons (pv 4) (pa_cons (pe_bltn rfl T.n_tuple b_tuple rfl) (pa_nil)))) (pe_callB call_isi (by rfl) T.n_isinstance b_isinstance (pa_cons (pv 5) (pa_cons (pe_bltn rfl T.n_tuple b_tuple rfl) (pa_nil)))) (nomark _))))) (pss_one (ps_ret (pe_bl))) (pss_nil))
              (pss_cons (ps_if (pt_cmpR (op_neU hr.units) (pe_callB call_len (by rfl) T.n_len b_len (pa_cons (pv 4) (pa_nil))) (pe_callB call_len (by rfl) T.n_len b_len (pa_cons (pv 5) (pa_nil))) (nomark _)) (pss_one (ps_ret (pe_bl))) (pss_nil))
              (pss_one (ps_for PassesOwn.never rfl (pi_range1 rfl T.n_range (pa_cons (pe_callB call_len (by rfl) T.n_len b_len (pa_cons (pv 5) (pa_nil))) (pa_nil))) (pg_name (i := 6) sc__law_same.nd rfl (by first | exact Or.inl rfl | exact Or.inr rfl)) (pss_one (ps_expr (pe_bm PySem.F.plainAttrs_list PySem.F.slot_list_append PySem.F.type_list_append mt_append (pv 2) (pa_cons (pe_tup (pa_cons (pe_ix ix_seq (pv 4) (pv 6) (fun _ _ => rfl)) (pa_cons (pe_ix ix_seq (pv 5) (pv 6) (fun _ _ => rfl)) (pa_nil)))) (pa_nil))))))))))))))))))))
    (pss_one (ps_ret (pe_bl))))
theorem ok__law_drawn_moves {P : Program} {w : World} {K : PySem.W.Frag} {mg : Str → Option Value} {base : Heap} {f : Addr} {fd : FuncData} {a : Adr} (T : Txt P w K mg base a) (F : Fun K "_law_drawn_moves" "_law_drawn_moves" s__law_drawn_moves f fd) : FnOk P w K mg base CX0 1 f fd ["row", "states", "many"] (spQ K (R__law_drawn_moves a)) := by
  have hw := T.hw
  subst hw
  refine fn_okQ F sc__law_drawn_moves (fun ds o h => R__law_drawn_moves_len h) (fun cdv A outer s H E hr => ⟨t__law_drawn_moves K a E, ?_, fun ds o h => r__law_drawn_moves T.kf h⟩)
  exact
    pss_cons (ps_set (i := 3) sc__law_drawn_moves.nd rfl (by first | exact Or.inl rfl | exact Or.inr rfl) (pe_str))
    (pss_cons (ps_set (i := 4) sc__law_drawn_moves.nd rfl (by first | exact Or.inl rfl | exact Or.inr rfl) (pe_lst (pa_nil)))
    (pss_cons (ps_for PassesOwn.never rfl (pi_range1 rfl T.n_range (pa_cons (pv 1) (pa_nil))) (pg_name (i := 5) sc__law_drawn_moves.nd rfl (by first | exact Or.inl rfl | exact Or.inr rfl)) (pss_one (ps_for PassesOwn.never rfl (pi_range1 rfl T.n_range (pa_cons (pv 2) (pa_nil))) (pg_name (i := 6) sc__law_drawn_moves.nd rfl (by first | exact Or.inl rfl | exact Or.inr rfl)) (pss_cons (ps_set (i := 7) sc__law_drawn_moves.nd rfl (by first | exact Or.inl rfl | exact Or.inr rfl) (pe_op op_addU (pe_op op_addU (pe_callTy call_int1 (by rfl) T.n_int b_int (pa_cons (pe_ix ix_seq (pv 0) (pe_op op_mod (pe_callTy call_int1 (by rfl) T.n_int b_int (pa_cons (pe_op op_addU (pe_op op_addU (pe_op op_mulU (pv 5) (pe_int)) (pe_op op_mulU (pv 6) (pe_int))) (pe_int)) (pa_nil))) (pe_callB call_len (by rfl) T.n_len b_len (pa_cons (pv 0) (pa_nil)))) (fun _ _ => rfl)) (pa_nil))) (pe_op op_mulU (pe_int) (pv 5))) (pv 6)))
        (pss_one (ps_if (pt_cmpR op_gt (pe_op op_mod (pe_callTy call_int1 (by rfl) T.n_int b_int (pa_cons (pv 7) (pa_nil))) (pe_int)) (pe_int) (nomark _)) (pss_one (ps_expr (pe_bm PySem.F.plainAttrs_list PySem.F.slot_list_append PySem.F.type_list_append mt_append (pv 4) (pa_cons (pe_tup (pa_cons (pv 5) (pa_cons (pe_ix ix_seq (pv 3) (pe_op op_mod (pe_callTy call_int1 (by rfl) T.n_int b_int (pa_cons (pe_op op_addU (pe_ix ix_seq (pv 0) (pe_int) (fun _ _ => rfl)) (pv 6)) (pa_nil))) (pe_int)) (fun _ _ => rfl)) (pa_cons (pe_op op_mod (pe_callTy call_int1 (by rfl) T.n_int b_int (pa_cons (pe_op op_fdiv (pv 7) (pe_int)) (pa_nil))) (pv 1)) (pa_nil))))) (pa_nil))))) (pss_nil)))))))
    (pss_cons (ps_if (pt_cmpR (op_eqU hr.units) (pv 4) (pe_lst (pa_nil)) (nomark _)) (pss_one (ps_ret (pv 4))) (pss_nil))
    (pss_cons (ps_set (i := 8) sc__law_drawn_moves.nd rfl (by first | exact Or.inl rfl | exact Or.inr rfl) (pe_op op_mod (pe_callTy call_int1 (by rfl) T.n_int b_int (pa_cons (pe_ix ix_seq (pv 0) (pe_int) (fun _ _ => rfl)) (pa_nil))) (pe_callB call_len (by rfl) T.n_len b_len (pa_cons (pv 4) (pa_nil)))))
    (pss_cons (ps_set (i := 4) sc__law_drawn_moves.nd rfl (by first | exact Or.inl rfl | exact Or.inr rfl) (pe_op op_addU (pe_slice sl_U (pv 4) (po_some (pv 8)) (po_none)) (pe_slice sl_U (pv 4) (po_none) (po_some (pv 8)))))
    (pss_cons (ps_if (pt_cmpR (op_eqU hr.units) (pe_op op_mod (pe_callTy call_int1 (by rfl) T.n_int b_int (pa_cons (pe_ix ix_seq (pv 0) (pe_int) (fun _ _ => rfl)) (pa_nil))) (pe_int)) (pe_int) (nomark _)) (pss_one (ps_ret (pe_revL (pv 4)))) (pss_nil))
    (pss_one (ps_ret (pv 4)))))))))
theorem ok__law_spoilt {P : Program} {w : World} {K : PySem.W.Frag} {mg : Str → Option Value} {base : Heap} {f : Addr} {fd : FuncData} {a : Adr} (T : Txt P w K mg base a) (F : Fun K "_law_spoilt" "_law_spoilt" s__law_spoilt f fd) : FnOk P w K mg base CX0 1 f fd ["moves", "states", "row"] (spQ K (R__law_spoilt a)) := by
  have hw := T.hw
  subst hw
  refine fn_okQ F sc__law_spoilt (fun ds o h => R__law_spoilt_len h) (fun cdv A outer s H E hr => ⟨t__law_spoilt K a E, ?_, fun ds o h => r__law_spoilt T.kf h⟩)
  exact
    pss_cons (ps_set (i := 3) sc__law_spoilt.nd rfl (by first | exact Or.inl rfl | exact Or.inr rfl) (pe_op op_mod (pe_callTy call_int1 (by rfl) T.n_int b_int (pa_cons (pe_ix ix_seq (pv 2) (pe_int) (fun _ _ => rfl)) (pa_nil))) (pe_op op_addU (pe_callB call_len (by rfl) T.n_len b_len (pa_cons (pv 0) (pa_nil))) (pe_int))))
    (pss_cons (ps_set (i := 4) sc__law_spoilt.nd rfl (by first | exact Or.inl rfl | exact Or.inr rfl) (pe_ix ix_seq (pe_str) (pe_op op_mod (pe_callTy call_int1 (by rfl) T.n_int b_int (pa_cons (pe_ix ix_seq (pv 2) (pe_int) (fun _ _ => rfl)) (pa_nil))) (pe_int)) (fun _ _ => rfl)))
    (pss_cons (ps_set (i := 5) sc__law_spoilt.nd rfl (by first | exact Or.inl rfl | exact Or.inr rfl) (pe_op op_mod (pe_callTy call_int1 (by rfl) T.n_int b_int (pa_cons (pe_ix ix_seq (pv 2) (pe_int) (fun _ _ => rfl)) (pa_nil))) (pv 1)))
    (pss_cons (ps_set (i := 6) sc__law_spoilt.nd rfl (by first | exact Or.inl rfl | exact Or.inr rfl) (pe_lst (pa_cons (pe_tup (pa_cons (pe_un un_neg (pe_int)) (pa_cons (pv 4) (pa_cons (pv 5) (pa_nil))))) (pa_cons (pe_tup (pa_cons (pv 1) (pa_cons (pv 4) (pa_cons (pv 5) (pa_nil))))) (pa_cons (pe_tup (pa_cons (pv 5) (pa_cons (pv 4) (pa_cons (pv 1) (pa_nil))))) (pa_cons (pe_tup (pa_cons (pv 5) (pa_cons (pv 4) (pa_cons (pe_un un_neg (pe_int)) (pa_nil))))) (pa_nil)))))))
    (pss_cons (ps_set (i := 7) sc__law_spoilt.nd rfl (by first | exact Or.inl rfl | exact Or.inr rfl) (pe_slice sl_U (pe_str) (po_some (pe_op op_mod (pe_callTy call_int1 (by rfl) T.n_int b_int (pa_cons (pe_ix ix_seq (pv 2) (pe_int) (fun _ _ => rfl)) (pa_nil))) (pe_int))) (po_some (pe_op op_addU (pe_op op_mod (pe_callTy call_int1 (by rfl) T.n_int b_int (pa_cons (pe_ix ix_seq (pv 2) (pe_int) (fun _ _ => rfl)) (pa_nil))) (pe_int)) (pe_int)))))
    (pss_cons (ps_set (i := 6) sc__law_spoilt.nd rfl (by first | exact Or.inl rfl | exact Or.inr rfl) (pe_op op_addU (pv 6) (pe_lst (pa_cons (pe_tup (pa_cons (pv 5) (pa_cons (pe_str) (pa_cons (pv 5) (pa_nil))))) (pa_cons (pe_tup (pa_cons (pv 5) (pa_cons (pv 7) (pa_cons (pv 5) (pa_nil))))) (pa_cons (pe_tup (pa_cons (pv 5) (pa_cons (pe_op op_addU (pv 4) (pv 4)) (pa_cons (pv 5) (pa_nil))))) (pa_nil)))))))
    (pss_cons (ps_set (i := 6) sc__law_spoilt.nd rfl (by first | exact Or.inl rfl | exact Or.inr rfl) (pe_op op_addU (pv 6) (pe_lst (pa_cons (pe_tup (pa_cons (pv 5) (pa_cons (pe_str) (pa_cons (pv 5) (pa_nil))))) (pa_cons (pe_tup (pa_cons (pv 5) (pa_cons (pe_str) (pa_cons (pv 5) (pa_nil))))) (pa_cons (pe_tup (pa_cons (pv 5) (pa_cons (pe_str) (pa_cons (pv 5) (pa_nil))))) (pa_cons (pe_tup (pa_cons (pv 5) (pa_cons (pe_str) (pa_cons (pv 5) (pa_nil))))) (pa_nil))))))))
    (pss_cons (ps_set (i := 8) sc__law_spoilt.nd rfl (by first | exact Or.inl rfl | exact Or.inr rfl) (pe_op op_mod (pe_callTy call_int1 (by rfl) T.n_int b_int (pa_cons (pe_ix ix_seq (pv 2) (pe_int) (fun _ _ => rfl)) (pa_nil))) (pe_int)))
    (pss_cons (ps_set (i := 9) sc__law_spoilt.nd rfl (by first | exact Or.inl rfl | exact Or.inr rfl) (pe_ix ix_seq (pv 6) (pe_op op_mod (pe_callTy call_int1 (by rfl) T.n_int b_int (pa_cons (pv 8) (pa_nil))) (pe_int)) (fun _ _ => rfl)))
    (pss_cons (ps_if (PW.pt (pw_and (pt_cmpR op_gt (pv 8) (pe_int) (nomark _)) (pw_and1 (pt_cmpR op_gt (pv 3) (pe_int) (nomark _))))) (pss_cons (ps_set (i := 10) sc__law_spoilt.nd rfl (by first | exact Or.inl rfl | exact Or.inr rfl) (pe_ix ix_seq (pv 0) (pe_op op_mod (pe_callTy call_int1 (by rfl) T.n_int b_int (pa_cons (pe_ix ix_seq (pv 2) (pe_int) (fun _ _ => rfl)) (pa_nil))) (pv 3)) (fun _ _ => rfl)))
      (pss_one (ps_set (i := 9) sc__law_spoilt.nd rfl (by first | exact Or.inl rfl | exact Or.inr rfl) (pe_tup (pa_cons (pe_ix ix_seq (pv 10) (pe_int) (fun _ _ => rfl)) (pa_cons (pe_ix ix_seq (pv 10) (pe_int) (fun _ _ => rfl)) (pa_cons (pe_ix ix_seq (pe_lst (pa_cons (pv 5) (pa_cons (pe_ix ix_seq (pv 10) (pe_int) (fun _ _ => rfl)) (pa_nil)))) (pe_op op_mod (pe_callTy call_int1 (by rfl) T.n_int b_int (pa_cons (pv 8) (pa_nil))) (pe_int)) (fun _ _ => rfl)) (pa_nil)))))))) (pss_nil))
    (pss_one (ps_ret (pe_op op_addU (pe_op op_addU (pe_slice sl_U (pv 0) (po_none) (po_some (pv 3))) (pe_lst (pa_cons (pv 9) (pa_nil)))) (pe_slice sl_U (pv 0) (po_some (pv 3)) (po_none))))))))))))))
theorem ok__law_first_bad {P : Program} {w : World} {K : PySem.W.Frag} {mg : Str → Option Value} {base : Heap} {f : Addr} {fd : FuncData} {a : Adr} (T : Txt P w K mg base a) (F : Fun K "_law_first_bad" "_law_first_bad" s__law_first_bad f fd) : FnOk P w K mg base CX0 1 f fd ["states", "moves"] (spD K (R__law_first_bad a)) := by
  have hw := T.hw
  subst hw
  refine fn_ok F sc__law_first_bad (fun ds o h => R__law_first_bad_len h) (fun cdv A outer s H E hr => ⟨t__law_first_bad K a E, ?_, fun ds o h => r__law_first_bad T.kf h⟩)
  exact
    pss_cons (ps_set (i := 2) sc__law_first_bad.nd rfl (by first | exact Or.inl rfl | exact Or.inr rfl) (pe_dnewT))
    (pss_cons (ps_for PassesOwn.never rfl (pi_range1 rfl T.n_range (pa_cons (pe_callB call_len (by rfl) T.n_len b_len (pa_cons (pv 1) (pa_nil))) (pa_nil))) (pg_name (i := 3) sc__law_first_bad.nd rfl (by first | exact Or.inl rfl | exact Or.inr rfl)) (pss_cons (ps_asg (pe_ix ix_seq (pv 1) (pv 3) (fun _ _ => rfl)) (pg_tup rfl (pgs_cons (pg_name (i := 4) sc__law_first_bad.nd rfl (by first | exact Or.inl rfl | exact Or.inr rfl)) (pgs_cons (pg_name (i := 5) sc__law_first_bad.nd rfl (by first | exact Or.inl rfl | exact Or.inr rfl)) (pgs_cons (pg_name (i := 6) sc__law_first_bad.nd rfl (by first | exact Or.inl rfl | exact Or.inr rfl)) (pgs_nil))))))
      (pss_cons (ps_if (PW.pt (pw_or (pt_not (pt_chain op_le op_lt (pe_int) (pv 4) (pv 0))) (pw_or1 (pt_not (pt_chain op_le op_lt (pe_int) (pv 6) (pv 0)))))) (pss_one (ps_ret (pv 3))) (pss_nil))
      (pss_cons (ps_if (PW.pt (pw_or (pt_cmpR (op_neU hr.units) (pe_callB call_len (by rfl) T.n_len b_len (pa_cons (pv 5) (pa_nil))) (pe_int) (nomark _)) (pw_or (pt_cmpR op_ninU (pv 5) (pe_str) (by with_unfolding_all rfl)) (pw_or1 (pt_cmp (pc_din (hu_of hr) (pe_tup (pa_cons (pv 4) (pa_cons (pv 5) (pa_nil)))) (pv 2)) rfl))))) (pss_one (ps_ret (pv 3))) (pss_nil))
      (pss_one (ps_dput (hu_of hr) (pv 2) (pe_tup (pa_cons (pv 4) (pa_cons (pv 5) (pa_nil)))) (pe_bl) rfl))))))
    (pss_one (ps_ret (pe_un un_neg (pe_int)))))
theorem ok__law_due {P : Program} {w : World} {K : PySem.W.Frag} {mg : Str → Option Value} {base : Heap} {f : Addr} {fd : FuncData} {a : Adr} (T : Txt P w K mg base a) (F : Fun K "_law_due" "_law_due" s__law_due f fd)
    (g__law_first_bad : GFn P w K mg base CX0 1 "_law_first_bad" ["states", "moves"] [] (spD K (R__law_first_bad a))) : FnOk P w K mg base CX0 2 f fd ["states", "accepting", "moves"] (spD K (R__law_due a)) := by
  have hw := T.hw
  subst hw
  refine fn_ok F sc__law_due (fun ds o h => R__law_due_len h) (fun cdv A outer s H E hr => ⟨t__law_due K a E, ?_, fun ds o h => r__law_due T.kf h⟩)
  exact
    pss_cons (ps_if (pt_cmpR op_gt (pv 0) (pe_int) (nomark _)) (pss_one (ps_ret (pe_lst (pa_cons (pe_str) (pa_cons (pe_int) (pa_nil)))))) (pss_nil))
    (pss_cons (ps_if (pt_cmpR (op_neU hr.units) (pe_lc (own := [("state", 3)]) rfl sc__law_due.nd (pi_list (pv 1)) (blkOk_by (N := ["states", "accepting", "moves", "state", "place"]) (sc := defScope s__law_due) (own := [("state", 3)]) (by decide +kernel)) (fun _ _ _ _ _ => pg_name (i := 3) sc__law_due.nd rfl (by first | exact Or.inl rfl | exact Or.inr rfl)) (fun _ _ _ _ _ => pts_one (pt_not (pt_chain op_le op_lt (pe_int) (pv 3) (pv 0)))) (fun _ _ _ _ _ => pv 3)) (pe_lst (pa_nil)) (nomark _)) (pss_one (ps_ret (pe_lst (pa_cons (pe_str) (pa_cons (pe_un un_neg (pe_int)) (pa_nil)))))) (pss_nil))
    (pss_cons (ps_set (i := 4) sc__law_due.nd rfl (by first | exact Or.inl rfl | exact Or.inr rfl) (pe_gcall g__law_first_bad (hr.mono (by decide)) .nil pass0 (pa_cons (pv 0) (pa_cons (pv 2) (pa_nil)))))
    (pss_cons (ps_if (pt_cmpR op_ge (pv 4) (pe_int) (nomark _)) (pss_one (ps_ret (pe_lst (pa_cons (pe_str) (pa_cons (pv 4) (pa_nil)))))) (pss_nil))
    (pss_one (ps_ret (pe_lst (pa_cons (pe_str) (pa_cons (pe_int) (pa_nil)))))))))
theorem ok__law_made {P : Program} {w : World} {K : PySem.W.Frag} {mg : Str → Option Value} {base : Heap} {f : Addr} {fd : FuncData} {a : Adr} (T : Txt P w K mg base a) (F : Fun K "_law_made" "_law_made" s__law_made f fd)
    (k_Machine_init : KFn P w K mg base (L2.CX P w) 2 "Machine" a.c_Machine ["self", "states", "accepting", "moves"] [] (spI K (R_Machine_init a))) : FnOk P w K mg base CX0 4 f fd ["states", "accepting", "moves"] (spD K (R__law_made a)) := by
  have hw := T.hw
  subst hw
  refine fn_ok F sc__law_made (fun ds o h => R__law_made_len h) (fun cdv A outer s H E hr => ⟨t__law_made K a E, ?_, fun ds o h => r__law_made T.kf h⟩)
  exact
    pss_cons (ps_set (i := 3) sc__law_made.nd rfl (by first | exact Or.inl rfl | exact Or.inr rfl) (pe_lst (pa_cons (pe_callTy call_list_of (by rfl) T.n_list b_list (pa_cons (pv 1) (pa_nil))) (pa_cons (pe_callTy call_list_of (by rfl) T.n_list b_list (pa_cons (pv 2) (pa_nil))) (pa_nil)))))
    (pss_cons (ps_set (i := 4) sc__law_made.nd rfl (by first | exact Or.inl rfl | exact Or.inr rfl) (pe_non))
    (pss_cons (ps_set (i := 5) sc__law_made.nd rfl (by first | exact Or.inl rfl | exact Or.inr rfl) (pe_lst (pa_cons (pe_str) (pa_cons (pe_int) (pa_nil)))))
    (pss_cons (ps_try_as (i := 6) (tb := fun W => tAsg (tMakeS a.c_Machine (spI K (R_Machine_init a)) [] (WE W) (tCons (tVar 0) (tCons (tOp (rIx K) (tVar 3) (tC (.int 0))) (tCons (tOp (rIx K) (tVar 3) (tC (.int 1))) (tNil))))) (gName 4)) (ts := fun ea cls d => tSeq (tAsg (tLst (tCons (tC (.str "other")) (tCons (tC (.int 0)) (tNil)))) (gName 5))
      (tSeq (tIfS (tAnd (tB (tCB (rIsX K ea cls d) (tCons (tVar 6) (tCons (tC (.ref a.c_TooMany)) (tNil))))) (tAnd (tB (tCB (rIsX K ea cls d) (tCons (tVar 6) (tCons (tC (.ty "ValueError")) (tNil))))) (tNot (tB (tCB (rIsX K ea cls d) (tCons (tVar 6) (tCons (tC (.ref a.c_BadMachine)) (tNil)))))))) (tAsg (tLst (tCons (tC (.str "many")) (tCons (tXf ea cls d a.c_TooMany "limit" (tVar 6)) (tNil)))) (gName 5)) (tNext))
      (tIfS (tAnd (tB (tCB (rIsX K ea cls d) (tCons (tVar 6) (tCons (tC (.ref a.c_BadMachine)) (tNil))))) (tAnd (tB (tCB (rIsX K ea cls d) (tCons (tVar 6) (tCons (tC (.ty "ValueError")) (tNil))))) (tNot (tB (tCB (rIsX K ea cls d) (tCons (tVar 6) (tCons (tC (.ref a.c_TooMany)) (tNil)))))))) (tAsg (tLst (tCons (tC (.str "bad")) (tCons (tXf ea cls d a.c_BadMachine "place" (tVar 6)) (tNil)))) (gName 5)) (tNext)))) (Wout := fun _ _ _ _ => False) rfl rfl sc__law_made.nd rfl rfl ⟨rfl, by decide, Or.inl T.g_Fault⟩ takes0 (fun W pn xe tk _ => pss_one (ps_set (i := 4) sc__law_made.nd rfl (by first | exact Or.inl rfl | exact Or.inr rfl) (pe_kcallS k_Machine_init (hr.mono (by decide)) (fun σ => passAt tk σ) (pa_cons (pv 0) (pa_cons (pe_ix ix_seq (pv 3) (pe_int) (fun _ _ => rfl)) (pa_cons (pe_ix ix_seq (pv 3) (pe_int) (fun _ _ => rfl)) (pa_nil))))))) (fun ea oe cls d pn hz hf => pss_cons (ps_set (i := 5) sc__law_made.nd rfl (by first | exact Or.inl rfl | exact Or.inr rfl) (pe_lst (pa_cons (pe_str) (pa_cons (pe_int) (pa_nil)))))
      (pss_cons (ps_if (PW.pt (pw_and (pt_val (pe_callB (call_isX hz hf) (by rfl) T.n_isinstance b_isinstance (pa_cons (pv 6) (pa_cons (pe_glob rfl T.g_TooMany rfl) (pa_nil))))) (pw_and (pt_val (pe_callB (call_isX hz hf) (by rfl) T.n_isinstance b_isinstance (pa_cons (pv 6) (pa_cons (pe_bltn rfl T.n_ValueError b_ValueError rfl) (pa_nil))))) (pw_and1 (pt_not (pt_val (pe_callB (call_isX hz hf) (by rfl) T.n_isinstance b_isinstance (pa_cons (pv 6) (pa_cons (pe_glob rfl T.g_BadMachine rfl) (pa_nil)))))))))) (pss_one (ps_set (i := 5) sc__law_made.nd rfl (by first | exact Or.inl rfl | exact Or.inr rfl) (pe_lst (pa_cons (pe_str) (pa_cons (pe_xf T.xf_TooMany T.xn_TooMany_limit hz hf (pv 6)) (pa_nil)))))) (pss_nil))
      (pss_one (ps_if (PW.pt (pw_and (pt_val (pe_callB (call_isX hz hf) (by rfl) T.n_isinstance b_isinstance (pa_cons (pv 6) (pa_cons (pe_glob rfl T.g_BadMachine rfl) (pa_nil))))) (pw_and (pt_val (pe_callB (call_isX hz hf) (by rfl) T.n_isinstance b_isinstance (pa_cons (pv 6) (pa_cons (pe_bltn rfl T.n_ValueError b_ValueError rfl) (pa_nil))))) (pw_and1 (pt_not (pt_val (pe_callB (call_isX hz hf) (by rfl) T.n_isinstance b_isinstance (pa_cons (pv 6) (pa_cons (pe_glob rfl T.g_TooMany rfl) (pa_nil)))))))))) (pss_one (ps_set (i := 5) sc__law_made.nd rfl (by first | exact Or.inl rfl | exact Or.inr rfl) (pe_lst (pa_cons (pe_str) (pa_cons (pe_xf T.xf_BadMachine T.xn_BadMachine_place hz hf (pv 6)) (pa_nil)))))) (pss_nil))))))
    (pss_cons (ps_if (pt_cmpR (op_neU hr.units) (pv 3) (pe_lst (pa_cons (pv 1) (pa_cons (pv 2) (pa_nil)))) (nomark _)) (pss_one (ps_set (i := 5) sc__law_made.nd rfl (by first | exact Or.inl rfl | exact Or.inr rfl) (pe_lst (pa_cons (pe_str) (pa_cons (pe_int) (pa_nil)))))) (pss_nil))
    (pss_cons (ps_expr (pe_bm PySem.F.plainAttrs_list PySem.F.slot_list_append PySem.F.type_list_append mt_append (pe_ix ix_seq (pv 3) (pe_int) (fun _ _ => rfl)) (pa_cons (pe_int) (pa_nil))))
    (pss_cons (ps_expr (pe_bm PySem.F.plainAttrs_list PySem.F.slot_list_append PySem.F.type_list_append mt_append (pe_ix ix_seq (pv 3) (pe_int) (fun _ _ => rfl)) (pa_cons (pe_tup (pa_cons (pe_int) (pa_cons (pe_str) (pa_cons (pe_int) (pa_nil))))) (pa_nil))))
    (pss_one (ps_ret (pe_lst (pa_cons (pv 5) (pa_cons (pv 4) (pa_nil))))))))))))
theorem ok__law_table {P : Program} {w : World} {K : PySem.W.Frag} {mg : Str → Option Value} {base : Heap} {f : Addr} {fd : FuncData} {a : Adr} (T : Txt P w K mg base a) (F : Fun K "_law_table" "_law_table" s__law_table f fd) : FnOk P w K mg base CX0 1 f fd ["moves"] (spD K (R__law_table a)) := by
  have hw := T.hw
  subst hw
  refine fn_ok F sc__law_table (fun ds o h => R__law_table_len h) (fun cdv A outer s H E hr => ⟨t__law_table K a E, ?_, fun ds o h => r__law_table T.kf h⟩)
  exact
    pss_cons (ps_set (i := 1) sc__law_table.nd rfl (by first | exact Or.inl rfl | exact Or.inr rfl) (pe_dnewT))
    (pss_cons (ps_for PassesOwn.never rfl (pi_list (pv 0)) (pg_name (i := 2) sc__law_table.nd rfl (by first | exact Or.inl rfl | exact Or.inr rfl)) (pss_one (ps_dput (hu_of hr) (pv 1) (pe_tup (pa_cons (pe_ix ix_seq (pv 2) (pe_int) (fun _ _ => rfl)) (pa_cons (pe_ix ix_seq (pv 2) (pe_int) (fun _ _ => rfl)) (pa_nil)))) (pe_ix ix_seq (pv 2) (pe_int) (fun _ _ => rfl)) rfl)))
    (pss_one (ps_ret (pv 1))))
theorem ok__law_reads {P : Program} {w : World} {K : PySem.W.Frag} {mg : Str → Option Value} {base : Heap} {f : Addr} {fd : FuncData} {a : Adr} (T : Txt P w K mg base a) (F : Fun K "_law_reads" "_law_reads" s__law_reads f fd)
    (o_Machine_callm : OFn P w K mg base CX0 2 a.c_Machine (spD K (R_Machine_callm a)))
    (m_Machine_state_after : MFn P w K mg base CX0 1 a.c_Machine "state_after" ["self", "text", "state"] [] (spD K (R_Machine_state_after a)))
    (m_Machine_state_after1 : MFn P w K mg base CX0 1 a.c_Machine "state_after" ["self", "text", "state"] [.int 0] (spD K (R_Machine_state_after a)))
    (g__law_same : GFn P w K mg base CX0 1 "_law_same" ["told", "due"] [] (spD K (R__law_same a)))
    (g__law_table : GFn P w K mg base CX0 1 "_law_table" ["moves"] [] (spD K (R__law_table a))) : FnOk P w K mg base CX0 3 f fd ["machine", "states", "accepting", "moves", "words"] (spD K (R__law_reads a)) := by
  have hw := T.hw
  subst hw
  refine fn_ok F sc__law_reads (fun ds o h => R__law_reads_len h) (fun cdv A outer s H E hr => ⟨t__law_reads K a E, ?_, fun ds o h => r__law_reads T.kf h⟩)
  exact
    pss_cons (ps_setLc (i := 5) (own := [("state", 6)]) rfl sc__law_reads.nd rfl rfl (sw_true rfl rfl rfl (by decide +kernel)) (pi_range1 rfl T.n_range (pa_cons (pv 1) (pa_nil))) (blkOk_by (N := ["machine", "states", "accepting", "moves", "words", "ascending", "state", "table", "word", "here", "letter"]) (sc := defScope s__law_reads) (own := [("state", 6)]) (by decide +kernel)) (fun _ _ _ _ _ => pg_name (i := 6) sc__law_reads.nd rfl (by first | exact Or.inl rfl | exact Or.inr rfl)) (fun _ _ _ _ _ => pts_one (pt_cmpR op_inU (pv 6) (pv 2) (by with_unfolding_all rfl))) (fun _ _ _ _ _ => pv 6))
    (pss_cons (ps_if (pt_not (pt_val (pe_gcall g__law_same (hr.mono (by decide)) .nil pass0 (pa_cons (pe_lst (pa_cons (pe_fld (pv 0) rfl) (pa_cons (pe_fld (pv 0) rfl) (pa_cons (pe_fld (pv 0) rfl) (pa_nil))))) (pa_cons (pe_lst (pa_cons (pv 1) (pa_cons (pe_callTy call_tuple_of (by rfl) T.n_tuple b_tuple (pa_cons (pv 5) (pa_nil))) (pa_cons (pe_callTy call_tuple_of (by rfl) T.n_tuple b_tuple (pa_cons (pv 3) (pa_nil))) (pa_nil))))) (pa_nil)))))) (pss_one (ps_ret (pe_bl))) (pss_nil))
    (pss_cons (ps_set (i := 7) sc__law_reads.nd rfl (by first | exact Or.inl rfl | exact Or.inr rfl) (pe_gcall g__law_table (hr.mono (by decide)) .nil pass0 (pa_cons (pv 3) (pa_nil))))
    (pss_cons (ps_for PassesOwn.never rfl (pi_list (pv 4)) (pg_name (i := 8) sc__law_reads.nd rfl (by first | exact Or.inl rfl | exact Or.inr rfl)) (pss_one (ps_for PassesOwn.never rfl (pi_range1 rfl T.n_range (pa_cons (pv 1) (pa_nil))) (pg_name (i := 6) sc__law_reads.nd rfl (by first | exact Or.inl rfl | exact Or.inr rfl)) (pss_cons (ps_if (PW.pt (pw_and (pt_cmpR op_gt (pe_callB call_len (by rfl) T.n_len b_len (pa_cons (pv 8) (pa_nil))) (pe_int) (nomark _)) (pw_and (pt_cmpR (op_neU hr.units) (pv 6) (pe_int) (nomark _)) (pw_and1 (pt_cmpR (op_neU hr.units) (pv 6) (pe_op op_sub (pv 1) (pe_int)) (nomark _)))))) (pss_one (ps_continue)) (pss_nil))
        (pss_cons (ps_set (i := 9) sc__law_reads.nd rfl (by first | exact Or.inl rfl | exact Or.inr rfl) (pv 6))
        (pss_cons (ps_for PassesOwn.never rfl (pi_str (pv 8)) (pg_name (i := 10) sc__law_reads.nd rfl (by first | exact Or.inl rfl | exact Or.inr rfl)) (pss_one (ps_set (i := 9) sc__law_reads.nd rfl (by first | exact Or.inl rfl | exact Or.inr rfl) (pe_dget2 (hu_of hr) (pv 7) (pe_tup (pa_cons (pv 9) (pa_cons (pv 10) (pa_nil)))) (pe_un un_neg (pe_int)) (⟨rfl, rfl, rfl, rfl⟩)))))
        (pss_cons (ps_if (pt_not (pt_val (pe_gcall g__law_same (hr.mono (by decide)) .nil pass0 (pa_cons (pe_mcall (pv 0) T.k_Machine m_Machine_state_after (hr.mono (by decide)) pass0 (pa_cons (pv 8) (pa_cons (pv 6) (pa_nil)))) (pa_cons (pv 9) (pa_nil)))))) (pss_one (ps_ret (pe_bl))) (pss_nil))
        (pss_one (ps_if (PW.pt (pw_and (pt_cmpR (op_eqU hr.units) (pv 6) (pe_int) (nomark _)) (pw_and1 (pt_not (pt_val (pe_gcall g__law_same (hr.mono (by decide)) .nil pass0 (pa_cons (pe_lst (pa_cons (pe_mcall (pv 0) T.k_Machine m_Machine_state_after1 (hr.mono (by decide)) pass0 (pa_cons (pv 8) (pa_nil))) (pa_cons (pe_ocall (pv 0) o_Machine_callm (hr.mono (by decide)) pass0 (pa_cons (pv 8) (pa_nil))) (pa_nil)))) (pa_cons (pe_lst (pa_cons (pv 9) (pa_cons (pe_cmpR op_inU (pv 9) (pv 2) (by with_unfolding_all rfl)) (pa_nil)))) (pa_nil))))))))) (pss_one (ps_ret (pe_bl))) (pss_nil))))))))))
    (pss_one (ps_ret (pe_bl))))))
theorem ok__law_words {P : Program} {w : World} {K : PySem.W.Frag} {mg : Str → Option Value} {base : Heap} {f : Addr} {fd : FuncData} {a : Adr} (T : Txt P w K mg base a) (F : Fun K "_law_words" "_law_words" s__law_words f fd) : FnOk P w K mg base CX0 1 f fd ["row", "many"] (spQ K (R__law_words a)) := by
  have hw := T.hw
  subst hw
  refine fn_okQ F sc__law_words (fun ds o h => R__law_words_len h) (fun cdv A outer s H E hr => ⟨t__law_words K a E, ?_, fun ds o h => r__law_words T.kf h⟩)
  exact
    pss_cons (ps_set (i := 2) sc__law_words.nd rfl (by first | exact Or.inl rfl | exact Or.inr rfl) (pe_str))
    (pss_cons (ps_set (i := 3) sc__law_words.nd rfl (by first | exact Or.inl rfl | exact Or.inr rfl) (pe_lst (pa_cons (pe_str) (pa_cons (pe_str) (pa_cons (pe_ix ix_seq (pv 2) (pe_op op_mod (pe_callTy call_int1 (by rfl) T.n_int b_int (pa_cons (pe_ix ix_seq (pv 0) (pe_int) (fun _ _ => rfl)) (pa_nil))) (pe_int)) (fun _ _ => rfl)) (pa_nil))))))
    (pss_cons (ps_for PassesOwn.never rfl (pi_range1 rfl T.n_range (pa_cons (pe_int) (pa_nil))) (pg_name (i := 4) sc__law_words.nd rfl (by first | exact Or.inl rfl | exact Or.inr rfl)) (pss_cons (ps_set (i := 5) sc__law_words.nd rfl (by first | exact Or.inl rfl | exact Or.inr rfl) (pe_str))
      (pss_cons (ps_for PassesOwn.never rfl (pi_range1 rfl T.n_range (pa_cons (pe_op op_mod (pe_callTy call_int1 (by rfl) T.n_int b_int (pa_cons (pe_ix ix_seq (pv 0) (pe_callTy call_int1 (by rfl) T.n_int b_int (pa_cons (pe_op op_addU (pe_int) (pv 4)) (pa_nil))) (fun _ _ => rfl)) (pa_nil))) (pe_int)) (pa_nil))) (pg_name (i := 6) sc__law_words.nd rfl (by first | exact Or.inl rfl | exact Or.inr rfl)) (pss_one (ps_set (i := 5) sc__law_words.nd rfl (by first | exact Or.inl rfl | exact Or.inr rfl) (pe_op op_addU (pv 5) (pe_ix ix_seq (pv 2) (pe_op op_mod (pe_callTy call_int1 (by rfl) T.n_int b_int (pa_cons (pe_op op_addU (pe_ix ix_seq (pv 0) (pe_int) (fun _ _ => rfl)) (pe_op op_mod (pe_callTy call_int1 (by rfl) T.n_int b_int (pa_cons (pe_ix ix_seq (pv 0) (pe_op op_mod (pe_callTy call_int1 (by rfl) T.n_int b_int (pa_cons (pe_op op_addU (pe_op op_addU (pe_op op_mulU (pv 6) (pe_int)) (pe_op op_mulU (pv 4) (pe_int))) (pe_int)) (pa_nil))) (pe_callB call_len (by rfl) T.n_len b_len (pa_cons (pv 0) (pa_nil)))) (fun _ _ => rfl)) (pa_nil))) (pv 1))) (pa_nil))) (pe_int)) (fun _ _ => rfl))))))
      (pss_one (ps_expr (pe_bm PySem.F.plainAttrs_list PySem.F.slot_list_append PySem.F.type_list_append mt_append (pv 3) (pa_cons (pv 5) (pa_nil))))))))
    (pss_cons (ps_expr (pe_bm PySem.F.plainAttrs_list PySem.F.slot_list_append PySem.F.type_list_append mt_append (pv 3) (pa_cons (pe_op op_addU (pe_op op_addU (pe_ix ix_seq (pv 3) (pe_int) (fun _ _ => rfl)) (pe_str)) (pe_ix ix_seq (pv 3) (pe_int) (fun _ _ => rfl))) (pa_nil))))
    (pss_cons (ps_expr (pe_bm PySem.F.plainAttrs_list PySem.F.slot_list_append PySem.F.type_list_append mt_append (pv 3) (pa_cons (pe_op op_addU (pe_op op_addU (pe_ix ix_seq (pv 3) (pe_int) (fun _ _ => rfl)) (pe_ix ix_seq (pv 2) (pe_op op_mod (pe_callTy call_int1 (by rfl) T.n_int b_int (pa_cons (pe_op op_addU (pe_ix ix_seq (pv 0) (pe_int) (fun _ _ => rfl)) (pe_int)) (pa_nil))) (pe_int)) (fun _ _ => rfl))) (pe_ix ix_seq (pv 3) (pe_int) (fun _ _ => rfl))) (pa_nil))))
    (pss_cons (ps_if (PW.pt (pw_and (pt_cmpR op_gt (pe_callB call_len (by rfl) T.n_len b_len (pa_cons (pe_ix ix_seq (pv 3) (pe_int) (fun _ _ => rfl)) (pa_nil))) (pe_int) (nomark _)) (pw_and1 (pt_cmpR (op_eqU hr.units) (pe_op op_mod (pe_callTy call_int1 (by rfl) T.n_int b_int (pa_cons (pe_ix ix_seq (pv 0) (pe_int) (fun _ _ => rfl)) (pa_nil))) (pe_int)) (pe_int) (nomark _))))) (pss_one (ps_expr (pe_bm PySem.F.plainAttrs_list PySem.F.slot_list_append PySem.F.type_list_append mt_append (pv 3) (pa_cons (pe_slice sl_U (pe_op op_mulU (pe_ix ix_seq (pv 3) (pe_int) (fun _ _ => rfl)) (pe_int)) (po_none) (po_some (pe_op op_addU (pe_callTy call_int1 (by rfl) T.n_int b_int (pa_cons (pe_ix ix_seq (pv 0) (pe_int) (fun _ _ => rfl)) (pa_nil))) (pe_int)))) (pa_nil))))) (pss_nil))
    (pss_one (ps_ret (pv 3))))))))
theorem ok__law_world {P : Program} {w : World} {K : PySem.W.Frag} {mg : Str → Option Value} {base : Heap} {f : Addr} {fd : FuncData} {a : Adr} (T : Txt P w K mg base a) (F : Fun K "_law_world" "_law_world" s__law_world f fd)
    (g__law_drawn_moves : GFn P w K mg base CX0 1 "_law_drawn_moves" ["row", "states", "many"] [] (spQ K (R__law_drawn_moves a)))
    (g__law_words : GFn P w K mg base CX0 1 "_law_words" ["row", "many"] [] (spQ K (R__law_words a))) : FnOk P w K mg base CX0 2 f fd ["row"] (spQ K (R__law_world a)) := by
  have hw := T.hw
  subst hw
  refine fn_okQ F sc__law_world (fun ds o h => R__law_world_len h) (fun cdv A outer s H E hr => ⟨t__law_world K a E, ?_, fun ds o h => r__law_world T.kf h⟩)
  exact
    pss_cons (ps_set (i := 1) sc__law_world.nd rfl (by first | exact Or.inl rfl | exact Or.inr rfl) (pe_op op_addU (pe_int) (pe_op op_mod (pe_callTy call_int1 (by rfl) T.n_int b_int (pa_cons (pe_ix ix_seq (pv 0) (pe_int) (fun _ _ => rfl)) (pa_nil))) (pe_int))))
    (pss_cons (ps_if (pt_cmpR (op_eqU hr.units) (pe_op op_mod (pe_callTy call_int1 (by rfl) T.n_int b_int (pa_cons (pe_ix ix_seq (pv 0) (pe_int) (fun _ _ => rfl)) (pa_nil))) (pe_int)) (pe_int) (nomark _)) (pss_one (ps_set (i := 1) sc__law_world.nd rfl (by first | exact Or.inl rfl | exact Or.inr rfl) (pe_op op_addU (pe_int) (pe_op op_mod (pe_callTy call_int1 (by rfl) T.n_int b_int (pa_cons (pe_ix ix_seq (pv 0) (pe_int) (fun _ _ => rfl)) (pa_nil))) (pe_int))))) (pss_nil))
    (pss_cons (ps_set (i := 2) sc__law_world.nd rfl (by first | exact Or.inl rfl | exact Or.inr rfl) (pe_ix ix_seq (pe_lst (pa_cons (pe_int) (pa_cons (pe_int) (pa_nil)))) (pe_callTy call_int1 (by rfl) T.n_int b_int (pa_cons (pe_cmpR (op_eqU hr.units) (pe_op op_mod (pe_callTy call_int1 (by rfl) T.n_int b_int (pa_cons (pe_ix ix_seq (pv 0) (pe_int) (fun _ _ => rfl)) (pa_nil))) (pe_int)) (pe_int) (nomark _)) (pa_nil))) (fun _ _ => rfl)))
    (pss_cons (ps_setLc (i := 3) (own := [("k", 4)]) rfl sc__law_world.nd rfl rfl (sw_true rfl rfl rfl (by decide +kernel)) (pi_range1 rfl T.n_range (pa_cons (pe_op op_mod (pe_callTy call_int1 (by rfl) T.n_int b_int (pa_cons (pe_ix ix_seq (pv 0) (pe_int) (fun _ _ => rfl)) (pa_nil))) (pe_int)) (pa_nil))) (blkOk_by (N := ["row", "states", "many", "accepting", "k", "good", "moves"]) (sc := defScope s__law_world) (own := [("k", 4)]) (by decide +kernel)) (fun _ _ _ _ _ => pg_name (i := 4) sc__law_world.nd rfl (by first | exact Or.inl rfl | exact Or.inr rfl)) (fun _ _ _ _ _ => pts_nil) (fun _ _ _ _ _ => pe_op op_mod (pe_callTy call_int1 (by rfl) T.n_int b_int (pa_cons (pe_ix ix_seq (pv 0) (pe_callTy call_int1 (by rfl) T.n_int b_int (pa_cons (pe_op op_addU (pe_int) (pv 4)) (pa_nil))) (fun _ _ => rfl)) (pa_nil))) (pv 1)))
    (pss_cons (ps_set (i := 5) sc__law_world.nd rfl (by first | exact Or.inl rfl | exact Or.inr rfl) (pe_callTy call_list_of (by rfl) T.n_list b_list (pa_cons (pv 3) (pa_nil))))
    (pss_cons (ps_if (pt_cmpR (op_eqU hr.units) (pe_op op_mod (pe_callTy call_int1 (by rfl) T.n_int b_int (pa_cons (pe_ix ix_seq (pv 0) (pe_int) (fun _ _ => rfl)) (pa_nil))) (pe_int)) (pe_int) (nomark _)) (pss_one (ps_expr (pe_bm PySem.F.plainAttrs_list PySem.F.slot_list_insert PySem.F.type_list_insert mt_insert (pv 3) (pa_cons (pe_op op_mod (pe_callTy call_int1 (by rfl) T.n_int b_int (pa_cons (pe_ix ix_seq (pv 0) (pe_int) (fun _ _ => rfl)) (pa_nil))) (pe_op op_addU (pe_callB call_len (by rfl) T.n_len b_len (pa_cons (pv 3) (pa_nil))) (pe_int))) (pa_cons (pe_ix ix_seq (pe_lst (pa_cons (pe_un un_neg (pe_int)) (pa_cons (pv 1) (pa_cons (pe_op op_addU (pv 1) (pe_int)) (pa_nil))))) (pe_op op_mod (pe_callTy call_int1 (by rfl) T.n_int b_int (pa_cons (pe_ix ix_seq (pv 0) (pe_int) (fun _ _ => rfl)) (pa_nil))) (pe_int)) (fun _ _ => rfl)) (pa_nil)))))) (pss_nil))
    (pss_cons (ps_set (i := 6) sc__law_world.nd rfl (by first | exact Or.inl rfl | exact Or.inr rfl) (pe_gcall g__law_drawn_moves (hr.mono (by decide)) .nil pass0 (pa_cons (pv 0) (pa_cons (pv 1) (pa_cons (pv 2) (pa_nil))))))
    (pss_one (ps_ret (pe_lst (pa_cons (pv 1) (pa_cons (pv 3) (pa_cons (pv 5) (pa_cons (pv 6) (pa_cons (pe_gcall g__law_words (hr.mono (by decide)) .nil pass0 (pa_cons (pv 0) (pa_cons (pv 2) (pa_nil)))) (pa_nil)))))))))))))))
theorem ok__law_holds {P : Program} {w : World} {K : PySem.W.Frag} {mg : Str → Option Value} {base : Heap} {f : Addr} {fd : FuncData} {a : Adr} (T : Txt P w K mg base a) (F : Fun K "_law_holds" "_law_holds" s__law_holds f fd)
    (g__law_due : GFn P w K mg base CX0 2 "_law_due" ["states", "accepting", "moves"] [] (spD K (R__law_due a)))
    (g__law_made : GFn P w K mg base CX0 4 "_law_made" ["states", "accepting", "moves"] [] (spD K (R__law_made a)))
    (g__law_reads : GFn P w K mg base CX0 3 "_law_reads" ["machine", "states", "accepting", "moves", "words"] [] (spD K (R__law_reads a)))
    (g__law_same : GFn P w K mg base CX0 1 "_law_same" ["told", "due"] [] (spD K (R__law_same a))) : FnOk P w K mg base CX0 5 f fd ["states", "accepting", "moves", "words"] (spD K (R__law_holds a)) := by
  have hw := T.hw
  subst hw
  refine fn_ok F sc__law_holds (fun ds o h => R__law_holds_len h) (fun cdv A outer s H E hr => ⟨t__law_holds K a E, ?_, fun ds o h => r__law_holds T.kf h⟩)
  exact
    pss_cons (ps_set (i := 4) sc__law_holds.nd rfl (by first | exact Or.inl rfl | exact Or.inr rfl) (pe_gcall g__law_due (hr.mono (by decide)) .nil pass0 (pa_cons (pv 0) (pa_cons (pv 1) (pa_cons (pv 2) (pa_nil))))))
    (pss_cons (ps_asg (pe_gcall g__law_made (hr.mono (by decide)) .nil pass0 (pa_cons (pv 0) (pa_cons (pv 1) (pa_cons (pv 2) (pa_nil))))) (pg_lst rfl (pgs_cons (pg_name (i := 5) sc__law_holds.nd rfl (by first | exact Or.inl rfl | exact Or.inr rfl)) (pgs_cons (pg_name (i := 6) sc__law_holds.nd rfl (by first | exact Or.inl rfl | exact Or.inr rfl)) (pgs_nil)))))
    (pss_cons (ps_if (pt_not (pt_val (pe_gcall g__law_same (hr.mono (by decide)) .nil pass0 (pa_cons (pv 5) (pa_cons (pv 4) (pa_nil)))))) (pss_one (ps_ret (pe_bl))) (pss_nil))
    (pss_one (ps_ret (pe_or (pe_cmpR (op_neU hr.units) (pe_ix ix_seq (pv 4) (pe_int) (fun _ _ => rfl)) (pe_str) (nomark _)) (pe_one (pe_gcall g__law_reads (hr.mono (by decide)) .nil pass0 (pa_cons (pv 6) (pa_cons (pv 0) (pa_cons (pv 1) (pa_cons (pv 2) (pa_cons (pv 3) (pa_nil)))))))))))))
theorem ok_law {P : Program} {w : World} {K : PySem.W.Frag} {mg : Str → Option Value} {base : Heap} {f : Addr} {fd : FuncData} {a : Adr} (T : Txt P w K mg base a) (F : Fun K "law" "law" s_law f fd)
    (g__law_holds : GFn P w K mg base CX0 5 "_law_holds" ["states", "accepting", "moves", "words"] [] (spD K (R__law_holds a)))
    (g__law_made : GFn P w K mg base CX0 4 "_law_made" ["states", "accepting", "moves"] [] (spD K (R__law_made a)))
    (g__law_reads : GFn P w K mg base CX0 3 "_law_reads" ["machine", "states", "accepting", "moves", "words"] [] (spD K (R__law_reads a)))
    (g__law_row : GFn P w K mg base CX0 1 "_law_row" ["script", "many"] [] (spD K (R__law_row a)))
    (g__law_spoilt : GFn P w K mg base CX0 1 "_law_spoilt" ["moves", "states", "row"] [] (spQ K (R__law_spoilt a)))
    (g__law_world : GFn P w K mg base CX0 2 "_law_world" ["row"] [] (spQ K (R__law_world a))) : FnOk P w K mg base CX0 6 f fd ["script"] (spD K (R_law a)) := by
  have hw := T.hw
  subst hw
  refine fn_ok F sc_law (fun ds o h => R_law_len h) (fun cdv A outer s H E hr => ⟨t_law K a E, ?_, fun ds o h => r_law T.kf h⟩)
  exact
    pss_cons (ps_set (i := 1) sc_law.nd rfl (by first | exact Or.inl rfl | exact Or.inr rfl) (pe_gcall g__law_row (hr.mono (by decide)) .nil pass0 (pa_cons (pv 0) (pa_cons (pe_int) (pa_nil)))))
    (pss_cons (ps_asg (pe_gcall g__law_world (hr.mono (by decide)) .nil pass0 (pa_cons (pv 1) (pa_nil))) (pg_lst rfl (pgs_cons (pg_name (i := 2) sc_law.nd rfl (by first | exact Or.inl rfl | exact Or.inr rfl)) (pgs_cons (pg_name (i := 3) sc_law.nd rfl (by first | exact Or.inl rfl | exact Or.inr rfl)) (pgs_cons (pg_name (i := 4) sc_law.nd rfl (by first | exact Or.inl rfl | exact Or.inr rfl)) (pgs_cons (pg_name (i := 5) sc_law.nd rfl (by first | exact Or.inl rfl | exact Or.inr rfl)) (pgs_cons (pg_name (i := 6) sc_law.nd rfl (by first | exact Or.inl rfl | exact Or.inr rfl)) (pgs_nil))))))))
    (pss_cons (ps_if (PW.pt (pw_or (pt_not (pt_val (pe_gcall g__law_holds (hr.mono (by decide)) .nil pass0 (pa_cons (pv 2) (pa_cons (pv 3) (pa_cons (pv 5) (pa_cons (pv 6) (pa_nil)))))))) (pw_or1 (pt_not (pt_val (pe_gcall g__law_holds (hr.mono (by decide)) .nil pass0 (pa_cons (pv 2) (pa_cons (pv 4) (pa_cons (pv 5) (pa_cons (pv 6) (pa_nil))))))))))) (pss_one (ps_ret (pe_bl))) (pss_nil))
    (pss_cons (ps_set (i := 7) sc_law.nd rfl (by first | exact Or.inl rfl | exact Or.inr rfl) (pv 5))
    (pss_cons (ps_for PassesOwn.never rfl (pi_range1 rfl T.n_range (pa_cons (pe_op op_mod (pe_callTy call_int1 (by rfl) T.n_int b_int (pa_cons (pe_ix ix_seq (pv 1) (pe_int) (fun _ _ => rfl)) (pa_nil))) (pe_int)) (pa_nil))) (pg_name (i := 8) sc_law.nd rfl (by first | exact Or.inl rfl | exact Or.inr rfl)) (pss_one (ps_set (i := 7) sc_law.nd rfl (by first | exact Or.inl rfl | exact Or.inr rfl) (pe_gcall g__law_spoilt (hr.mono (by decide)) .nil pass0 (pa_cons (pv 7) (pa_cons (pv 2) (pa_cons (pe_slice sl_U (pv 1) (po_some (pe_callTy call_int1 (by rfl) T.n_int b_int (pa_cons (pe_op op_addU (pe_int) (pe_op op_mulU (pe_int) (pv 8))) (pa_nil)))) (po_none)) (pa_nil))))))))
    (pss_cons (ps_if (PW.pt (pw_or (pt_not (pt_val (pe_gcall g__law_holds (hr.mono (by decide)) .nil pass0 (pa_cons (pv 2) (pa_cons (pv 3) (pa_cons (pv 7) (pa_cons (pv 6) (pa_nil)))))))) (pw_or1 (pt_not (pt_val (pe_gcall g__law_holds (hr.mono (by decide)) .nil pass0 (pa_cons (pv 2) (pa_cons (pv 4) (pa_cons (pv 7) (pa_cons (pv 6) (pa_nil))))))))))) (pss_one (ps_ret (pe_bl))) (pss_nil))
    (pss_cons (ps_set (i := 9) sc_law.nd rfl (by first | exact Or.inl rfl | exact Or.inr rfl) (pe_callB (call_min2 rfl) (by rfl) T.n_min b_min (pa_cons (pv 2) (pa_cons (pe_int) (pa_nil)))))
    (pss_cons (ps_setLc (i := 10) (own := [("move", 11)]) rfl sc_law.nd rfl rfl (sw_true rfl rfl rfl (by decide +kernel)) (pi_list (pv 5)) (blkOk_by (N := ["script", "row", "states", "accepting", "good", "moves", "words", "spoilt", "k", "few", "other", "move", "first", "state", "second", "kept"]) (sc := defScope s_law) (own := [("move", 11)]) (by decide +kernel)) (fun _ _ _ _ _ => pg_name (i := 11) sc_law.nd rfl (by first | exact Or.inl rfl | exact Or.inr rfl)) (fun _ _ _ _ _ => pts_one (PW.pt (pw_and (pt_cmpR op_lt (pe_ix ix_seq (pv 11) (pe_int) (fun _ _ => rfl)) (pv 9) (nomark _)) (pw_and1 (pt_cmpR op_lt (pe_ix ix_seq (pv 11) (pe_int) (fun _ _ => rfl)) (pv 9) (nomark _)))))) (fun _ _ _ _ _ => pe_tup (pa_cons (pe_ix ix_seq (pv 11) (pe_int) (fun _ _ => rfl)) (pa_cons (pe_ix ix_seq (pv 11) (pe_int) (fun _ _ => rfl)) (pa_cons (pe_op op_sub (pe_op op_sub (pv 9) (pe_int)) (pe_ix ix_seq (pv 11) (pe_int) (fun _ _ => rfl))) (pa_nil))))))
    (pss_cons (ps_set (i := 12) sc_law.nd rfl (by first | exact Or.inl rfl | exact Or.inr rfl) (pe_gcall g__law_made (hr.mono (by decide)) .nil pass0 (pa_cons (pv 9) (pa_cons (pe_lc (own := [("state", 13)]) rfl sc_law.nd (pi_list (pv 4)) (blkOk_by (N := ["script", "row", "states", "accepting", "good", "moves", "words", "spoilt", "k", "few", "other", "move", "first", "state", "second", "kept"]) (sc := defScope s_law) (own := [("state", 13)]) (by decide +kernel)) (fun _ _ _ _ _ => pg_name (i := 13) sc_law.nd rfl (by first | exact Or.inl rfl | exact Or.inr rfl)) (fun _ _ _ _ _ => pts_one (pt_cmpR op_lt (pv 13) (pv 9) (nomark _))) (fun _ _ _ _ _ => pv 13)) (pa_cons (pe_lc (own := [("move", 11)]) rfl sc_law.nd (pi_list (pv 5)) (blkOk_by (N := ["script", "row", "states", "accepting", "good", "moves", "words", "spoilt", "k", "few", "other", "move", "first", "state", "second", "kept"]) (sc := defScope s_law) (own := [("move", 11)]) (by decide +kernel)) (fun _ _ _ _ _ => pg_name (i := 11) sc_law.nd rfl (by first | exact Or.inl rfl | exact Or.inr rfl)) (fun _ _ _ _ _ => pts_one (pt_cmpR op_lt (pe_callB (call_max2 rfl) (by rfl) T.n_max b_max (pa_cons (pe_ix ix_seq (pv 11) (pe_int) (fun _ _ => rfl)) (pa_cons (pe_ix ix_seq (pv 11) (pe_int) (fun _ _ => rfl)) (pa_nil)))) (pv 9) (nomark _))) (fun _ _ _ _ _ => pv 11)) (pa_nil))))))
    (pss_cons (ps_set (i := 14) sc_law.nd rfl (by first | exact Or.inl rfl | exact Or.inr rfl) (pe_gcall g__law_made (hr.mono (by decide)) .nil pass0 (pa_cons (pv 9) (pa_cons (pe_lst (pa_cons (pe_op op_sub (pv 9) (pe_int)) (pa_nil))) (pa_cons (pv 10) (pa_nil))))))
    (pss_cons (ps_if (PW.pt (pw_or (pt_cmpR (op_neU hr.units) (pe_ix ix_seq (pv 12) (pe_int) (fun _ _ => rfl)) (pe_lst (pa_cons (pe_str) (pa_cons (pe_int) (pa_nil)))) (nomark _)) (pw_or1 (pt_cmpR (op_neU hr.units) (pe_ix ix_seq (pv 14) (pe_int) (fun _ _ => rfl)) (pe_lst (pa_cons (pe_str) (pa_cons (pe_int) (pa_nil)))) (nomark _))))) (pss_one (ps_ret (pe_bl))) (pss_nil))
    (pss_cons (ps_setLc (i := 15) (own := [("state", 13)]) rfl sc_law.nd rfl rfl (sw_true rfl rfl rfl (by decide +kernel)) (pi_list (pv 4)) (blkOk_by (N := ["script", "row", "states", "accepting", "good", "moves", "words", "spoilt", "k", "few", "other", "move", "first", "state", "second", "kept"]) (sc := defScope s_law) (own := [("state", 13)]) (by decide +kernel)) (fun _ _ _ _ _ => pg_name (i := 13) sc_law.nd rfl (by first | exact Or.inl rfl | exact Or.inr rfl)) (fun _ _ _ _ _ => pts_one (pt_cmpR op_lt (pv 13) (pv 9) (nomark _))) (fun _ _ _ _ _ => pv 13))
    (pss_cons (ps_for PassesOwn.never rfl (pi_range1 rfl T.n_range (pa_cons (pe_int) (pa_nil))) (pg_name (i := 8) sc_law.nd rfl (by first | exact Or.inl rfl | exact Or.inr rfl)) (pss_cons (ps_if (pt_not (pt_val (pe_gcall g__law_reads (hr.mono (by decide)) .nil pass0 (pa_cons (pe_ix ix_seq (pv 14) (pe_int) (fun _ _ => rfl)) (pa_cons (pv 9) (pa_cons (pe_lst (pa_cons (pe_op op_sub (pv 9) (pe_int)) (pa_nil))) (pa_cons (pv 10) (pa_cons (pv 6) (pa_nil))))))))) (pss_one (ps_ret (pe_bl))) (pss_nil))
      (pss_one (ps_if (pt_not (pt_val (pe_gcall g__law_reads (hr.mono (by decide)) .nil pass0 (pa_cons (pe_ix ix_seq (pv 12) (pe_int) (fun _ _ => rfl)) (pa_cons (pv 9) (pa_cons (pv 15) (pa_cons (pe_lc (own := [("move", 11)]) rfl sc_law.nd (pi_list (pv 5)) (blkOk_by (N := ["script", "row", "states", "accepting", "good", "moves", "words", "spoilt", "k", "few", "other", "move", "first", "state", "second", "kept"]) (sc := defScope s_law) (own := [("move", 11)]) (by decide +kernel)) (fun _ _ _ _ _ => pg_name (i := 11) sc_law.nd rfl (by first | exact Or.inl rfl | exact Or.inr rfl)) (fun _ _ _ _ _ => pts_one (pt_cmpR op_lt (pe_callB (call_max2 rfl) (by rfl) T.n_max b_max (pa_cons (pe_ix ix_seq (pv 11) (pe_int) (fun _ _ => rfl)) (pa_cons (pe_ix ix_seq (pv 11) (pe_int) (fun _ _ => rfl)) (pa_nil)))) (pv 9) (nomark _))) (fun _ _ _ _ _ => pv 11)) (pa_cons (pv 6) (pa_nil))))))))) (pss_one (ps_ret (pe_bl))) (pss_nil)))))
    (pss_one (ps_ret (pe_bl)))))))))))))))
end K66
set_option Elab.async false
set_option linter.all false
set_option maxRecDepth 100000
set_option maxHeartbeats 4000000
namespace K66
open PySem PySem.Spec PyProof.Rows L2 PL
theorem all_mk {l : PySem.W.OpenLaw} {w : World} {K : PySem.W.Frag} {h : Heap} {mg : Str → Option Value} {fa C_Machine C_Fault C_TooMany C_BadMachine f_is_state f_Machine_init f_Machine_state_after T_Machine_state_after f_Machine_callm f__law_row f__law_same f__law_drawn_moves f__law_spoilt f__law_first_bad f__law_due f__law_made f__law_table f__law_reads f__law_words f__law_world f__law_holds f_law I_TooMany cda_TooMany cc_TooMany I_BadMachine cda_BadMachine cc_BadMachine : Addr} {od_is_state an_is_state od_Machine_init an_Machine_init od_Machine_state_after an_Machine_state_after odT_Machine_state_after od_Machine_callm an_Machine_callm od__law_row an__law_row od__law_same an__law_same od__law_drawn_moves an__law_drawn_moves od__law_spoilt an__law_spoilt od__law_first_bad an__law_first_bad od__law_due an__law_due od__law_made an__law_made od__law_table an__law_table od__law_reads an__law_reads od__law_words an__law_words od__law_world an__law_world od__law_holds an__law_holds od_law an_law : Option Addr} {sl_is_state sl_Machine_init sl_Machine_state_after slT_Machine_state_after sl_Machine_callm sl__law_row sl__law_same sl__law_drawn_moves sl__law_spoilt sl__law_first_bad sl__law_due sl__law_made sl__law_table sl__law_reads sl__law_words sl__law_world sl__law_holds sl_law : Array (Option Value)} {oc_is_state kV_is_state dc_is_state pm_is_state cd_is_state ct_is_state oc_Machine_init kV_Machine_init dc_Machine_init pm_Machine_init cd_Machine_init ct_Machine_init oc_Machine_state_after kV_Machine_state_after dc_Machine_state_after pm_Machine_state_after cd_Machine_state_after ct_Machine_state_after ocT_Machine_state_after oc_Machine_callm kV_Machine_callm dc_Machine_callm pm_Machine_callm cd_Machine_callm ct_Machine_callm oc__law_row kV__law_row dc__law_row pm__law_row cd__law_row ct__law_row oc__law_same kV__law_same dc__law_same pm__law_same cd__law_same ct__law_same oc__law_drawn_moves kV__law_drawn_moves dc__law_drawn_moves pm__law_drawn_moves cd__law_drawn_moves ct__law_drawn_moves oc__law_spoilt kV__law_spoilt dc__law_spoilt pm__law_spoilt cd__law_spoilt ct__law_spoilt oc__law_first_bad kV__law_first_bad dc__law_first_bad pm__law_first_bad cd__law_first_bad ct__law_first_bad oc__law_due kV__law_due dc__law_due pm__law_due cd__law_due ct__law_due oc__law_made kV__law_made dc__law_made pm__law_made cd__law_made ct__law_made oc__law_table kV__law_table dc__law_table pm__law_table cd__law_table ct__law_table oc__law_reads kV__law_reads dc__law_reads pm__law_reads cd__law_reads ct__law_reads oc__law_words kV__law_words dc__law_words pm__law_words cd__law_words ct__law_words oc__law_world kV__law_world dc__law_world pm__law_world cd__law_world ct__law_world oc__law_holds kV__law_holds dc__law_holds pm__law_holds cd__law_holds ct__law_holds oc_law kV_law dc_law pm_law cd_law ct_law : Value} {tk_Machine_state_after_0 tk_LETTERS tk_MOST_STATES : Tok} {nT_Machine_state_after : Nat} {nm_TooMany q_TooMany N_TooMany bs_TooMany bm_TooMany sn_TooMany sub_TooMany ab_TooMany col_TooMany dd_TooMany k0_TooMany k1_TooMany k2_TooMany k3_TooMany k5_TooMany : _} {qual_TooMany msg_TooMany : Str} {mk_TooMany : Nat} {p1_TooMany p2_TooMany q1_TooMany q2_TooMany q3_TooMany q4_TooMany q5_TooMany q6_TooMany r1_TooMany r2_TooMany r3_TooMany r4_TooMany : Pos} {sc_TooMany : Scope} {xoc_TooMany xdoc_TooMany xpm_TooMany xct_TooMany ccl_TooMany cl_TooMany : Value} {xod_TooMany xan_TooMany cdd_TooMany cld_TooMany : Option Addr} {xvs_TooMany : Array Value} {xosl_TooMany ccs_TooMany csl_TooMany : Array (Option Value)} {nm_BadMachine q_BadMachine N_BadMachine bs_BadMachine bm_BadMachine sn_BadMachine sub_BadMachine ab_BadMachine col_BadMachine dd_BadMachine k0_BadMachine k1_BadMachine k2_BadMachine k3_BadMachine k5_BadMachine : _} {qual_BadMachine msg_BadMachine : Str} {mk_BadMachine : Nat} {p1_BadMachine p2_BadMachine q1_BadMachine q2_BadMachine q3_BadMachine q4_BadMachine q5_BadMachine q6_BadMachine r1_BadMachine r2_BadMachine r3_BadMachine r4_BadMachine : Pos} {sc_BadMachine : Scope} {xoc_BadMachine xdoc_BadMachine xpm_BadMachine xct_BadMachine ccl_BadMachine cl_BadMachine : Value} {xod_BadMachine xan_BadMachine cdd_BadMachine cld_BadMachine : Option Addr} {xvs_BadMachine : Array Value} {xosl_BadMachine ccs_BadMachine csl_BadMachine : Array (Option Value)}
    (X : K.In h) (G : h.Ns mainGlobals mg) (hfa : mg "law" = some (.ref fa))
    (g_Machine : PySem.W.nsIn K mainGlobals "Machine" = some (some (.ref C_Machine)))
    (g_Fault : PySem.W.nsIn K mainGlobals "Fault" = some (some (.ref C_Fault)))
    (g_TooMany : PySem.W.nsIn K mainGlobals "TooMany" = some (some (.ref C_TooMany)))
    (g_BadMachine : PySem.W.nsIn K mainGlobals "BadMachine" = some (some (.ref C_BadMachine)))
    (a_is_state : PySem.W.nsIn K mainGlobals "is_state" = some (some (.ref f_is_state)))
    (l_is_state : K.lookup f_is_state = some ⟨oc_is_state, od_is_state, .func (PySem.W.fnOf "is_state" "is_state" (defArgs s_is_state) (defBody s_is_state) (defScope s_is_state) .none kV_is_state dc_is_state pm_is_state an_is_state cd_is_state ct_is_state), sl_is_state⟩)
    (c_is_state : PySem.W.codeIn K cd_is_state "is_state" = true)
    (k_is_state : PySem.W.keepIn K (.ref f_is_state) = true)
    (a_Machine_init : PySem.W.findIn K (.ref C_Machine) "__init__" = some (some (.ref f_Machine_init)))
    (i_Machine_init : PySem.W.isFn K (.ref f_Machine_init) = true)
    (l_Machine_init : K.lookup f_Machine_init = some ⟨oc_Machine_init, od_Machine_init, .func (PySem.W.fnOf "__init__" "Machine.__init__" (defArgs s_Machine_init) (defBody s_Machine_init) (defScope s_Machine_init) .none kV_Machine_init dc_Machine_init pm_Machine_init an_Machine_init cd_Machine_init ct_Machine_init), sl_Machine_init⟩)
    (c_Machine_init : PySem.W.codeIn K cd_Machine_init "Machine.__init__" = true)
    (k_Machine_init : PySem.W.keepIn K (.ref f_Machine_init) = true)
    (a_Machine_state_after : PySem.W.findIn K (.ref C_Machine) "state_after" = some (some (.ref f_Machine_state_after)))
    (i_Machine_state_after : PySem.W.isFn K (.ref f_Machine_state_after) = true)
    (l_Machine_state_after : K.lookup f_Machine_state_after = some ⟨oc_Machine_state_after, od_Machine_state_after, .func (PySem.W.fnOf "state_after" "Machine.state_after" (defArgs s_Machine_state_after) (defBody s_Machine_state_after) (defScope s_Machine_state_after) (.ref T_Machine_state_after) kV_Machine_state_after dc_Machine_state_after pm_Machine_state_after an_Machine_state_after cd_Machine_state_after ct_Machine_state_after), sl_Machine_state_after⟩)
    (c_Machine_state_after : PySem.W.codeIn K cd_Machine_state_after "Machine.state_after" = true)
    (k_Machine_state_after : PySem.W.keepIn K (.ref f_Machine_state_after) = true)
    (d_Machine_state_after : K.lookup T_Machine_state_after = some ⟨ocT_Machine_state_after, odT_Machine_state_after, .seq #[.int 0 tk_Machine_state_after_0] nT_Machine_state_after, slT_Machine_state_after⟩)
    (a_Machine_callm : PySem.W.findIn K (.ref C_Machine) "__call__" = some (some (.ref f_Machine_callm)))
    (i_Machine_callm : PySem.W.isFn K (.ref f_Machine_callm) = true)
    (fi_Machine_callm : PySem.W.fnIn K f_Machine_callm = true)
    (l_Machine_callm : K.lookup f_Machine_callm = some ⟨oc_Machine_callm, od_Machine_callm, .func (PySem.W.fnOf "__call__" "Machine.__call__" (defArgs s_Machine_callm) (defBody s_Machine_callm) (defScope s_Machine_callm) .none kV_Machine_callm dc_Machine_callm pm_Machine_callm an_Machine_callm cd_Machine_callm ct_Machine_callm), sl_Machine_callm⟩)
    (c_Machine_callm : PySem.W.codeIn K cd_Machine_callm "Machine.__call__" = true)
    (k_Machine_callm : PySem.W.keepIn K (.ref f_Machine_callm) = true)
    (a__law_row : PySem.W.nsIn K mainGlobals "_law_row" = some (some (.ref f__law_row)))
    (l__law_row : K.lookup f__law_row = some ⟨oc__law_row, od__law_row, .func (PySem.W.fnOf "_law_row" "_law_row" (defArgs s__law_row) (defBody s__law_row) (defScope s__law_row) .none kV__law_row dc__law_row pm__law_row an__law_row cd__law_row ct__law_row), sl__law_row⟩)
    (c__law_row : PySem.W.codeIn K cd__law_row "_law_row" = true)
    (k__law_row : PySem.W.keepIn K (.ref f__law_row) = true)
    (a__law_same : PySem.W.nsIn K mainGlobals "_law_same" = some (some (.ref f__law_same)))
    (l__law_same : K.lookup f__law_same = some ⟨oc__law_same, od__law_same, .func (PySem.W.fnOf "_law_same" "_law_same" (defArgs s__law_same) (defBody s__law_same) (defScope s__law_same) .none kV__law_same dc__law_same pm__law_same an__law_same cd__law_same ct__law_same), sl__law_same⟩)
    (c__law_same : PySem.W.codeIn K cd__law_same "_law_same" = true)
    (k__law_same : PySem.W.keepIn K (.ref f__law_same) = true)
    (a__law_drawn_moves : PySem.W.nsIn K mainGlobals "_law_drawn_moves" = some (some (.ref f__law_drawn_moves)))
    (l__law_drawn_moves : K.lookup f__law_drawn_moves = some ⟨oc__law_drawn_moves, od__law_drawn_moves, .func (PySem.W.fnOf "_law_drawn_moves" "_law_drawn_moves" (defArgs s__law_drawn_moves) (defBody s__law_drawn_moves) (defScope s__law_drawn_moves) .none kV__law_drawn_moves dc__law_drawn_moves pm__law_drawn_moves an__law_drawn_moves cd__law_drawn_moves ct__law_drawn_moves), sl__law_drawn_moves⟩)
    (c__law_drawn_moves : PySem.W.codeIn K cd__law_drawn_moves "_law_drawn_moves" = true)
    (k__law_drawn_moves : PySem.W.keepIn K (.ref f__law_drawn_moves) = true)
    (a__law_spoilt : PySem.W.nsIn K mainGlobals "_law_spoilt" = some (some (.ref f__law_spoilt)))
    (l__law_spoilt : K.lookup f__law_spoilt = some ⟨oc__law_spoilt, od__law_spoilt, .func (PySem.W.fnOf "_law_spoilt" "_law_spoilt" (defArgs s__law_spoilt) (defBody s__law_spoilt) (defScope s__law_spoilt) .none kV__law_spoilt dc__law_spoilt pm__law_spoilt an__law_spoilt cd__law_spoilt ct__law_spoilt), sl__law_spoilt⟩)
    (c__law_spoilt : PySem.W.codeIn K cd__law_spoilt "_law_spoilt" = true)
    (k__law_spoilt : PySem.W.keepIn K (.ref f__law_spoilt) = true)
    (a__law_first_bad : PySem.W.nsIn K mainGlobals "_law_first_bad" = some (some (.ref f__law_first_bad)))
    (l__law_first_bad : K.lookup f__law_first_bad = some ⟨oc__law_first_bad, od__law_first_bad, .func (PySem.W.fnOf "_law_first_bad" "_law_first_bad" (defArgs s__law_first_bad) (defBody s__law_first_bad) (defScope s__law_first_bad) .none kV__law_first_bad dc__law_first_bad pm__law_first_bad an__law_first_bad cd__law_first_bad ct__law_first_bad), sl__law_first_bad⟩)
    (c__law_first_bad : PySem.W.codeIn K cd__law_first_bad "_law_first_bad" = true)
    (k__law_first_bad : PySem.W.keepIn K (.ref f__law_first_bad) = true)
    (a__law_due : PySem.W.nsIn K mainGlobals "_law_due" = some (some (.ref f__law_due)))
    (l__law_due : K.lookup f__law_due = some ⟨oc__law_due, od__law_due, .func (PySem.W.fnOf "_law_due" "_law_due" (defArgs s__law_due) (defBody s__law_due) (defScope s__law_due) .none kV__law_due dc__law_due pm__law_due an__law_due cd__law_due ct__law_due), sl__law_due⟩)
    (c__law_due : PySem.W.codeIn K cd__law_due "_law_due" = true)
    (k__law_due : PySem.W.keepIn K (.ref f__law_due) = true)
    (a__law_made : PySem.W.nsIn K mainGlobals "_law_made" = some (some (.ref f__law_made)))
    (l__law_made : K.lookup f__law_made = some ⟨oc__law_made, od__law_made, .func (PySem.W.fnOf "_law_made" "_law_made" (defArgs s__law_made) (defBody s__law_made) (defScope s__law_made) .none kV__law_made dc__law_made pm__law_made an__law_made cd__law_made ct__law_made), sl__law_made⟩)
    (c__law_made : PySem.W.codeIn K cd__law_made "_law_made" = true)
    (k__law_made : PySem.W.keepIn K (.ref f__law_made) = true)
    (a__law_table : PySem.W.nsIn K mainGlobals "_law_table" = some (some (.ref f__law_table)))
    (l__law_table : K.lookup f__law_table = some ⟨oc__law_table, od__law_table, .func (PySem.W.fnOf "_law_table" "_law_table" (defArgs s__law_table) (defBody s__law_table) (defScope s__law_table) .none kV__law_table dc__law_table pm__law_table an__law_table cd__law_table ct__law_table), sl__law_table⟩)
    (c__law_table : PySem.W.codeIn K cd__law_table "_law_table" = true)
    (k__law_table : PySem.W.keepIn K (.ref f__law_table) = true)
    (a__law_reads : PySem.W.nsIn K mainGlobals "_law_reads" = some (some (.ref f__law_reads)))
    (l__law_reads : K.lookup f__law_reads = some ⟨oc__law_reads, od__law_reads, .func (PySem.W.fnOf "_law_reads" "_law_reads" (defArgs s__law_reads) (defBody s__law_reads) (defScope s__law_reads) .none kV__law_reads dc__law_reads pm__law_reads an__law_reads cd__law_reads ct__law_reads), sl__law_reads⟩)
    (c__law_reads : PySem.W.codeIn K cd__law_reads "_law_reads" = true)
    (k__law_reads : PySem.W.keepIn K (.ref f__law_reads) = true)
    (a__law_words : PySem.W.nsIn K mainGlobals "_law_words" = some (some (.ref f__law_words)))
    (l__law_words : K.lookup f__law_words = some ⟨oc__law_words, od__law_words, .func (PySem.W.fnOf "_law_words" "_law_words" (defArgs s__law_words) (defBody s__law_words) (defScope s__law_words) .none kV__law_words dc__law_words pm__law_words an__law_words cd__law_words ct__law_words), sl__law_words⟩)
    (c__law_words : PySem.W.codeIn K cd__law_words "_law_words" = true)
    (k__law_words : PySem.W.keepIn K (.ref f__law_words) = true)
    (a__law_world : PySem.W.nsIn K mainGlobals "_law_world" = some (some (.ref f__law_world)))
    (l__law_world : K.lookup f__law_world = some ⟨oc__law_world, od__law_world, .func (PySem.W.fnOf "_law_world" "_law_world" (defArgs s__law_world) (defBody s__law_world) (defScope s__law_world) .none kV__law_world dc__law_world pm__law_world an__law_world cd__law_world ct__law_world), sl__law_world⟩)
    (c__law_world : PySem.W.codeIn K cd__law_world "_law_world" = true)
    (k__law_world : PySem.W.keepIn K (.ref f__law_world) = true)
    (a__law_holds : PySem.W.nsIn K mainGlobals "_law_holds" = some (some (.ref f__law_holds)))
    (l__law_holds : K.lookup f__law_holds = some ⟨oc__law_holds, od__law_holds, .func (PySem.W.fnOf "_law_holds" "_law_holds" (defArgs s__law_holds) (defBody s__law_holds) (defScope s__law_holds) .none kV__law_holds dc__law_holds pm__law_holds an__law_holds cd__law_holds ct__law_holds), sl__law_holds⟩)
    (c__law_holds : PySem.W.codeIn K cd__law_holds "_law_holds" = true)
    (k__law_holds : PySem.W.keepIn K (.ref f__law_holds) = true)
    (a_law : PySem.W.nsIn K mainGlobals "law" = some (some (.ref f_law)))
    (l_law : K.lookup f_law = some ⟨oc_law, od_law, .func (PySem.W.fnOf "law" "law" (defArgs s_law) (defBody s_law) (defScope s_law) .none kV_law dc_law pm_law an_law cd_law ct_law), sl_law⟩)
    (c_law : PySem.W.codeIn K cd_law "law" = true)
    (k_law : PySem.W.keepIn K (.ref f_law) = true)
    (pg_Machine : PySem.W.plainGet K C_Machine Str.empty = true)
    (hd_Machine : PySem.W.hasDictIn K C_Machine = true)
    (po_Machine : PySem.W.plainOver K C_Machine = true)
    (sa_Machine : PySem.W.findIn K (.ref C_Machine) "__setattr__" = some (some (.builtin "object.__setattr__")))
    (mk_Machine : PySem.W.makesIn K C_Machine = true)
    (kc_Machine : PySem.W.keepIn K (.ref C_Machine) = true)
    (n_Machine_states : PySem.W.findIn K (.ref C_Machine) "states" = some none)
    (n_Machine_accepting : PySem.W.findIn K (.ref C_Machine) "accepting" = some none)
    (n_Machine_moves : PySem.W.findIn K (.ref C_Machine) "moves" = some none)
    (n_Machine__after : PySem.W.findIn K (.ref C_Machine) "_after" = some none)
    (z_len : PySem.W.nsIn K mainGlobals "len" = some none)
    (z_int : PySem.W.nsIn K mainGlobals "int" = some none)
    (z_min : PySem.W.nsIn K mainGlobals "min" = some none)
    (z_max : PySem.W.nsIn K mainGlobals "max" = some none)
    (z_range : PySem.W.nsIn K mainGlobals "range" = some none)
    (z_isinstance : PySem.W.nsIn K mainGlobals "isinstance" = some none)
    (z_list : PySem.W.nsIn K mainGlobals "list" = some none)
    (z_tuple : PySem.W.nsIn K mainGlobals "tuple" = some none)
    (z_bool : PySem.W.nsIn K mainGlobals "bool" = some none)
    (z_str : PySem.W.nsIn K mainGlobals "str" = some none)
    (z_set : PySem.W.nsIn K mainGlobals "set" = some none)
    (z_sorted : PySem.W.nsIn K mainGlobals "sorted" = some none)
    (z_enumerate : PySem.W.nsIn K mainGlobals "enumerate" = some none)
    (z_ValueError : PySem.W.nsIn K mainGlobals "ValueError" = some none)
    (z_super : PySem.W.nsIn K mainGlobals "super" = some none)
    (g_LETTERS : PySem.W.nsIn K mainGlobals "LETTERS" = some (some (.str "abcdefghijklmnopqrstuvwxyz" tk_LETTERS)))
    (g_MOST_STATES : PySem.W.nsIn K mainGlobals "MOST_STATES" = some (some (.int 16 tk_MOST_STATES)))
    (xga_TooMany : PySem.W.findIn K (.ref C_TooMany) "__getattribute__" = some (some (.builtin "BaseException.__getattribute__")))
    (xgg_TooMany : PySem.W.findIn K (.ref C_TooMany) "__getattr__" = some none)
    (xbe_TooMany : PySem.W.subIn K (.ref C_TooMany) (.type "BaseException") = some true)
    (xhd_TooMany : PySem.W.hasDictIn K C_TooMany = true)
    (xca_TooMany : PySem.W.findIn K (.ref C_TooMany) "__class__" = some (some (.builtin "object.__class__")))
    (xhm_TooMany : PySem.W.mroIn K C_TooMany (.type "object") = some true)
    (xn_TooMany : PySem.W.findIn K (.ref C_TooMany) "limit" = some none)
    (xcls_TooMany : K.lookup C_TooMany = some (PySem.excClassObj nm_TooMany q_TooMany C_TooMany N_TooMany bs_TooMany bm_TooMany true sn_TooMany sub_TooMany ab_TooMany col_TooMany dd_TooMany k0_TooMany k1_TooMany k2_TooMany k3_TooMany k5_TooMany "ValueError.__new__"))
    (xrv_TooMany : PySem.HandSPX.refsVE bm_TooMany = true)
    (xsa_TooMany : PySem.W.findIn K (.ref C_TooMany) "__setattr__" = some (some (.builtin "object.__setattr__")))
    (xiC_TooMany : PySem.W.findIn K (.ref C_TooMany) "__init__" = some (some (.ref I_TooMany)))
    (xtI_TooMany : PySem.W.typeIn K (.ref I_TooMany) = some (.type "function"))
    (xkC_TooMany : PySem.W.keepIn K (.ref C_TooMany) = true)
    (xve_TooMany : PySem.W.subIn K (.ref C_TooMany) (.type "ValueError") = some true)
    (xty_TooMany : PySem.W.typeIn K (.ref C_TooMany) = some (.type "type"))
    (xmro_TooMany : PySem.W.mroIn K C_TooMany (.ref C_TooMany) = some true)
    (xsup_TooMany : PySem.W.ks_superIn K C_TooMany C_TooMany "__init__" = some (some (.builtin "ValueError.__init__")))
    (xga_BadMachine : PySem.W.findIn K (.ref C_BadMachine) "__getattribute__" = some (some (.builtin "BaseException.__getattribute__")))
    (xgg_BadMachine : PySem.W.findIn K (.ref C_BadMachine) "__getattr__" = some none)
    (xbe_BadMachine : PySem.W.subIn K (.ref C_BadMachine) (.type "BaseException") = some true)
    (xhd_BadMachine : PySem.W.hasDictIn K C_BadMachine = true)
    (xca_BadMachine : PySem.W.findIn K (.ref C_BadMachine) "__class__" = some (some (.builtin "object.__class__")))
    (xhm_BadMachine : PySem.W.mroIn K C_BadMachine (.type "object") = some true)
    (xn_BadMachine : PySem.W.findIn K (.ref C_BadMachine) "place" = some none)
    (xcls_BadMachine : K.lookup C_BadMachine = some (PySem.excClassObj nm_BadMachine q_BadMachine C_BadMachine N_BadMachine bs_BadMachine bm_BadMachine true sn_BadMachine sub_BadMachine ab_BadMachine col_BadMachine dd_BadMachine k0_BadMachine k1_BadMachine k2_BadMachine k3_BadMachine k5_BadMachine "ValueError.__new__"))
    (xrv_BadMachine : PySem.HandSPX.refsVE bm_BadMachine = true)
    (xsa_BadMachine : PySem.W.findIn K (.ref C_BadMachine) "__setattr__" = some (some (.builtin "object.__setattr__")))
    (xiC_BadMachine : PySem.W.findIn K (.ref C_BadMachine) "__init__" = some (some (.ref I_BadMachine)))
    (xtI_BadMachine : PySem.W.typeIn K (.ref I_BadMachine) = some (.type "function"))
    (xkC_BadMachine : PySem.W.keepIn K (.ref C_BadMachine) = true)
    (xve_BadMachine : PySem.W.subIn K (.ref C_BadMachine) (.type "ValueError") = some true)
    (xty_BadMachine : PySem.W.typeIn K (.ref C_BadMachine) = some (.type "type"))
    (xmro_BadMachine : PySem.W.mroIn K C_BadMachine (.ref C_BadMachine) = some true)
    (xsup_BadMachine : PySem.W.ks_superIn K C_BadMachine C_BadMachine "__init__" = some (some (.builtin "ValueError.__init__")))
    (spn : PySem.W.specialIn K (.builtin "object.__class__") "__get__" = some (some (.builtin "getset_descriptor.__get__")))
    (stk : PySem.W.takesIn K (.builtin "object.__class__") = some true)
    (opq : PySem.W.nsIn K cStatics "thirdparty.any" = some none)
    (fbe : PySem.W.subIn K (.ref C_Fault) (.type "BaseException") = some true)
    (fhd : PySem.W.hasDictIn K C_Fault = true)
    (fty : PySem.W.typeIn K (.ref C_Fault) = some (.type "type"))
    (sTF : PySem.W.subIn K (.ref C_TooMany) (.ref C_Fault) = some true)
    (sBF : PySem.W.subIn K (.ref C_BadMachine) (.ref C_Fault) = some true)
    (sTB : PySem.W.subIn K (.ref C_TooMany) (.ref C_BadMachine) = some false)
    (sBT : PySem.W.subIn K (.ref C_BadMachine) (.ref C_TooMany) = some false)
    (ne_TB : (C_TooMany == C_BadMachine) = false)
    (ne_BT : (C_BadMachine == C_TooMany) = false)
    (xl_TooMany : K.lookup I_TooMany = some ⟨xoc_TooMany, xod_TooMany, .func (PySem.W.ksFn "__init__" qual_TooMany (PySem.FltX.fA "limit" p1_TooMany p2_TooMany) (PySem.FltX.fB "limit" msg_TooMany mk_TooMany q1_TooMany q2_TooMany q3_TooMany q4_TooMany q5_TooMany q6_TooMany r1_TooMany r2_TooMany r3_TooMany r4_TooMany) sc_TooMany .none .none xdoc_TooMany xpm_TooMany xan_TooMany (.ref cda_TooMany) xct_TooMany cc_TooMany), xosl_TooMany⟩)
    (xc_TooMany : PySem.W.codeIn K (.ref cda_TooMany) qual_TooMany = true)
    (xd_TooMany : K.lookup cda_TooMany = some ⟨ccl_TooMany, cdd_TooMany, .fields xvs_TooMany, ccs_TooMany⟩)
    (xcc_TooMany : K.lookup cc_TooMany = some ⟨cl_TooMany, cld_TooMany, .cell (some (.ref C_TooMany)), csl_TooMany⟩)
    (xf_TooMany : ∃ (file : Str) (tf : Tok), xvs_TooMany[2]? = some (.str file tf) ∧ ((l.prog.main.file : Str) == file) = true ∧ sc_TooMany.names.lookup ("super" : Str) = some .globalImplicit ∧ sc_TooMany.names.lookup ("__class__" : Str) = some .free ∧ sc_TooMany.names.lookup ("self" : Str) = some .local ∧ sc_TooMany.names.lookup ("limit" : Str) = some .local ∧ sc_TooMany.kind = .function ∧ sc_TooMany.isCoroutine = false ∧ sc_TooMany.isGenerator = false ∧ (∀ y ∈ sc_TooMany.names, y.2 ≠ .cell))
    (xb_TooMany : ∀ a b : Value, bindArgs (PySem.W.ksFn "__init__" qual_TooMany (PySem.FltX.fA "limit" p1_TooMany p2_TooMany) (PySem.FltX.fB "limit" msg_TooMany mk_TooMany q1_TooMany q2_TooMany q3_TooMany q4_TooMany q5_TooMany q6_TooMany r1_TooMany r2_TooMany r3_TooMany r4_TooMany) sc_TooMany .none .none xdoc_TooMany xpm_TooMany xan_TooMany (.ref cda_TooMany) xct_TooMany cc_TooMany) ⟨[a, b], []⟩ = pure [(("self" : Str), a), ("limit", b)])
    (xs_TooMany : ∃ pl : Sem Bool, ∀ env : Env, eval (.Call (.Attribute (.Call (.Name "super" q1_TooMany) [] [] q2_TooMany) "__init__" q3_TooMany) [.Constant (.str msg_TooMany) mk_TooMany q4_TooMany] [] q5_TooMany) env = (do
      let ov ← attributeBase (.Call (.Name "super" q1_TooMany) [] [] q2_TooMany) "__init__" env (eval (.Call (.Name "super" q1_TooMany) [] [] q2_TooMany) env)
      standAt q3_TooMany.atName
      let (f, first) ← holding [ov] (getMethod ov "__init__" pl)
      callWith q5_TooMany f first (backTo q5_TooMany (starEach [.Constant (.str msg_TooMany) mk_TooMany q4_TooMany] env)) []))
    (xl_BadMachine : K.lookup I_BadMachine = some ⟨xoc_BadMachine, xod_BadMachine, .func (PySem.W.ksFn "__init__" qual_BadMachine (PySem.FltX.fA "place" p1_BadMachine p2_BadMachine) (PySem.FltX.fB "place" msg_BadMachine mk_BadMachine q1_BadMachine q2_BadMachine q3_BadMachine q4_BadMachine q5_BadMachine q6_BadMachine r1_BadMachine r2_BadMachine r3_BadMachine r4_BadMachine) sc_BadMachine .none .none xdoc_BadMachine xpm_BadMachine xan_BadMachine (.ref cda_BadMachine) xct_BadMachine cc_BadMachine), xosl_BadMachine⟩)
    (xc_BadMachine : PySem.W.codeIn K (.ref cda_BadMachine) qual_BadMachine = true)
    (xd_BadMachine : K.lookup cda_BadMachine = some ⟨ccl_BadMachine, cdd_BadMachine, .fields xvs_BadMachine, ccs_BadMachine⟩)
    (xcc_BadMachine : K.lookup cc_BadMachine = some ⟨cl_BadMachine, cld_BadMachine, .cell (some (.ref C_BadMachine)), csl_BadMachine⟩)
    (xf_BadMachine : ∃ (file : Str) (tf : Tok), xvs_BadMachine[2]? = some (.str file tf) ∧ ((l.prog.main.file : Str) == file) = true ∧ sc_BadMachine.names.lookup ("super" : Str) = some .globalImplicit ∧ sc_BadMachine.names.lookup ("__class__" : Str) = some .free ∧ sc_BadMachine.names.lookup ("self" : Str) = some .local ∧ sc_BadMachine.names.lookup ("place" : Str) = some .local ∧ sc_BadMachine.kind = .function ∧ sc_BadMachine.isCoroutine = false ∧ sc_BadMachine.isGenerator = false ∧ (∀ y ∈ sc_BadMachine.names, y.2 ≠ .cell))
    (xb_BadMachine : ∀ a b : Value, bindArgs (PySem.W.ksFn "__init__" qual_BadMachine (PySem.FltX.fA "place" p1_BadMachine p2_BadMachine) (PySem.FltX.fB "place" msg_BadMachine mk_BadMachine q1_BadMachine q2_BadMachine q3_BadMachine q4_BadMachine q5_BadMachine q6_BadMachine r1_BadMachine r2_BadMachine r3_BadMachine r4_BadMachine) sc_BadMachine .none .none xdoc_BadMachine xpm_BadMachine xan_BadMachine (.ref cda_BadMachine) xct_BadMachine cc_BadMachine) ⟨[a, b], []⟩ = pure [(("self" : Str), a), ("place", b)])
    (xs_BadMachine : ∃ pl : Sem Bool, ∀ env : Env, eval (.Call (.Attribute (.Call (.Name "super" q1_BadMachine) [] [] q2_BadMachine) "__init__" q3_BadMachine) [.Constant (.str msg_BadMachine) mk_BadMachine q4_BadMachine] [] q5_BadMachine) env = (do
      let ov ← attributeBase (.Call (.Name "super" q1_BadMachine) [] [] q2_BadMachine) "__init__" env (eval (.Call (.Name "super" q1_BadMachine) [] [] q2_BadMachine) env)
      standAt q3_BadMachine.atName
      let (f, first) ← holding [ov] (getMethod ov "__init__" pl)
      callWith q5_BadMachine f first (backTo q5_BadMachine (starEach [.Constant (.str msg_BadMachine) mk_BadMachine q4_BadMachine] env)) []))
    (top : (l.prog.main.scope.names.lookup ("super" : Str)).isSome = false)
    : ∃ fd : FuncData, (∀ (s : Shared) (u : Value), BindsTo s fd ⟨[u], []⟩ [("script", u)]) ∧ ∀ base : Heap, K.In base → base.Ns mainGlobals mg → FnOk l.prog w K mg base CX0 6 fa fd ["script"] (spD K PL.RL) := by
  have e0 := hfa.symm.trans (PySem.W.mg_of X G a_law)
  cases e0
  let a : Adr := { w := w, c_Fault := C_Fault, c_TooMany := C_TooMany, c_BadMachine := C_BadMachine, c_Machine := C_Machine }
  refine ⟨PySem.W.fnOf "law" "law" (defArgs s_law) (defBody s_law) (defScope s_law) .none kV_law dc_law pm_law an_law cd_law ct_law, fun s u => .of_eq rfl, fun base hb hns => ?_⟩
  have cl_Machine : Cls K C_Machine := ⟨pg_Machine, hd_Machine, po_Machine, sa_Machine⟩
  have ec_TooMany : ExcC K C_TooMany := ⟨xga_TooMany, xgg_TooMany, xbe_TooMany, xhd_TooMany, xca_TooMany, spn, stk, xhm_TooMany⟩
  have fl_TooMany : PySem.FltX.Flt l.prog K C_TooMany I_TooMany "limit" := by
    obtain ⟨file, tf, e1, e2, e3, e4, e5, e6, e7, e8, e9, e10⟩ := xf_TooMany
    exact ⟨⟨_, _, _, _, _, _, _, _, _, _, _, _, _, _, _, xcls_TooMany, xrv_TooMany⟩, xsa_TooMany, xn_TooMany, xiC_TooMany, xtI_TooMany, xkC_TooMany, xbe_TooMany, xve_TooMany, xty_TooMany, xmro_TooMany, xsup_TooMany, opq, z_super,
      ⟨_, _, _, _, _, _, _, _, _, _, _, _, _, _, _, _, _, _, _, _, _, _, _, _, _, _, _, _, _, file, tf, _, _, _, xl_TooMany, xc_TooMany, xd_TooMany, e1, e2, xcc_TooMany, e3, e4, e5, e6, e7, e8, e9, e10, xb_TooMany, xs_TooMany⟩, top, by decide +kernel, by decide +kernel⟩
  have ec_BadMachine : ExcC K C_BadMachine := ⟨xga_BadMachine, xgg_BadMachine, xbe_BadMachine, xhd_BadMachine, xca_BadMachine, spn, stk, xhm_BadMachine⟩
  have fl_BadMachine : PySem.FltX.Flt l.prog K C_BadMachine I_BadMachine "place" := by
    obtain ⟨file, tf, e1, e2, e3, e4, e5, e6, e7, e8, e9, e10⟩ := xf_BadMachine
    exact ⟨⟨_, _, _, _, _, _, _, _, _, _, _, _, _, _, _, xcls_BadMachine, xrv_BadMachine⟩, xsa_BadMachine, xn_BadMachine, xiC_BadMachine, xtI_BadMachine, xkC_BadMachine, xbe_BadMachine, xve_BadMachine, xty_BadMachine, xmro_BadMachine, xsup_BadMachine, opq, z_super,
      ⟨_, _, _, _, _, _, _, _, _, _, _, _, _, _, _, _, _, _, _, _, _, _, _, _, _, _, _, _, _, file, tf, _, _, _, xl_BadMachine, xc_BadMachine, xd_BadMachine, e1, e2, xcc_BadMachine, e3, e4, e5, e6, e7, e8, e9, e10, xb_BadMachine, xs_BadMachine⟩, top, by decide +kernel, by decide +kernel⟩
  have kf : Kf K a := { cM := cl_Machine, n1 := n_Machine_states, n2 := n_Machine_accepting, n3 := n_Machine_moves, n4 := n_Machine__after, xT := PySem.W.exm_ref fbe fhd fty sTF, xB := PySem.W.exm_ref fbe fhd fty sBF, eT := ec_TooMany, eB := ec_BadMachine, TT := PL.kit_self, TV := PL.kit_T xve_TooMany (by decide +kernel), TB := PL.kit_R ne_TB xhd_BadMachine xty_BadMachine sTB, BB := PL.kit_self, BV := PL.kit_T xve_BadMachine (by decide +kernel), BT := PL.kit_R ne_BT xhd_TooMany xty_TooMany sBT }
  have T : Txt l.prog w K mg base a := { hw := rfl, kf := kf, n_len := PySem.W.mg_none_of X G z_len, n_int := PySem.W.mg_none_of X G z_int, n_min := PySem.W.mg_none_of X G z_min, n_max := PySem.W.mg_none_of X G z_max, n_range := PySem.W.mg_none_of X G z_range, n_isinstance := PySem.W.mg_none_of X G z_isinstance, n_list := PySem.W.mg_none_of X G z_list, n_tuple := PySem.W.mg_none_of X G z_tuple, n_bool := PySem.W.mg_none_of X G z_bool, n_str := PySem.W.mg_none_of X G z_str, n_set := PySem.W.mg_none_of X G z_set, n_sorted := PySem.W.mg_none_of X G z_sorted, n_enumerate := PySem.W.mg_none_of X G z_enumerate, n_ValueError := PySem.W.mg_none_of X G z_ValueError, n_super := PySem.W.mg_none_of X G z_super, g_LETTERS := ⟨tk_LETTERS, PySem.W.mg_of X G g_LETTERS⟩, g_MOST_STATES := ⟨tk_MOST_STATES, PySem.W.mg_of X G g_MOST_STATES⟩, g_Fault := PySem.W.mg_of X G g_Fault, g_TooMany := PySem.W.mg_of X G g_TooMany, g_BadMachine := PySem.W.mg_of X G g_BadMachine, x_TooMany := ⟨I_TooMany, fl_TooMany⟩, xf_TooMany := ⟨xga_TooMany, xgg_TooMany, xbe_TooMany, xhd_TooMany⟩, xn_TooMany_limit := xn_TooMany, x_BadMachine := ⟨I_BadMachine, fl_BadMachine⟩, xf_BadMachine := ⟨xga_BadMachine, xgg_BadMachine, xbe_BadMachine, xhd_BadMachine⟩, xn_BadMachine_place := xn_BadMachine }
  have F_is_state := fun_mk (st := s_is_state) l_is_state c_is_state k_is_state
  have b_is_state := F_is_state.binds (ps := ["state", "states"]) fun _ _ _ _ _ _ us hl => match us, hl with | [_, _], _ => rfl
  have G_is_state := ok_is_state (w := w) (mg := mg) (base := base) (a := a) T F_is_state 
  have F_Machine_init := fun_mk (st := s_Machine_init) l_Machine_init c_Machine_init k_Machine_init
  have b_Machine_init := F_Machine_init.binds (ps := ["self", "states", "accepting", "moves"]) fun _ _ _ _ _ _ us hl => match us, hl with | [_, _, _, _], _ => rfl
  have G_Machine_init := ok_Machine_init (w := w) (mg := mg) (base := base) (a := a) T F_Machine_init ⟨⟨_, _, G_is_state, PySem.W.mg_of X G a_is_state, k_is_state, b_is_state⟩⟩
  have F_Machine_state_after : FunD K "state_after" "Machine.state_after" (defArgs s_Machine_state_after) (defBody s_Machine_state_after) (defScope s_Machine_state_after) [.int 0] [] f_Machine_state_after _ := ⟨⟨_, _, _, _, _, _, _, _, _, _, rfl, l_Machine_state_after, c_Machine_state_after, .inr ⟨by simp, _, _, [.int 0 tk_Machine_state_after_0], _, rfl, d_Machine_state_after, rfl, .cons ⟨_, rfl⟩ .nil⟩, .inl rfl⟩, k_Machine_state_after⟩
  have b_Machine_state_after := F_Machine_state_after.binds1 (ps := ["self", "text", "state"]) 3 1 (by simp) rfl fun _ _ _ _ _ _ _ us its hl hi => match us, its, hl, hi with | [_, _, _], [_], _, _ => ⟨_, rfl, rfl⟩
  have b_Machine_state_after1 := F_Machine_state_after.binds1 (ps := ["self", "text", "state"]) 2 0 (by simp) rfl fun _ _ _ _ _ _ _ us its hl hi => match us, its, hl, hi with | [_, _], [_], _, _ => ⟨_, rfl, rfl⟩
  have G_Machine_state_after := ok_Machine_state_after (w := w) (mg := mg) (base := base) (a := a) T F_Machine_state_after 
  have F_Machine_callm := fun_mk (st := s_Machine_callm) l_Machine_callm c_Machine_callm k_Machine_callm
  have b_Machine_callm := F_Machine_callm.binds (ps := ["self", "text"]) fun _ _ _ _ _ _ us hl => match us, hl with | [_, _], _ => rfl
  have G_Machine_callm := ok_Machine_callm (w := w) (mg := mg) (base := base) (a := a) T F_Machine_callm (by obtain ⟨ds, h1, h2⟩ := b_Machine_state_after1; exact ⟨⟨_, _, ds, G_Machine_state_after, ⟨a_Machine_state_after, i_Machine_state_after, k_Machine_state_after⟩, h2, h1⟩⟩)
  have F__law_row := fun_mk (st := s__law_row) l__law_row c__law_row k__law_row
  have b__law_row := F__law_row.binds (ps := ["script", "many"]) fun _ _ _ _ _ _ us hl => match us, hl with | [_, _], _ => rfl
  have G__law_row := ok__law_row (w := w) (mg := mg) (base := base) (a := a) T F__law_row 
  have F__law_same := fun_mk (st := s__law_same) l__law_same c__law_same k__law_same
  have b__law_same := F__law_same.binds (ps := ["told", "due"]) fun _ _ _ _ _ _ us hl => match us, hl with | [_, _], _ => rfl
  have G__law_same := ok__law_same (w := w) (mg := mg) (base := base) (a := a) T F__law_same 
  have F__law_drawn_moves := fun_mk (st := s__law_drawn_moves) l__law_drawn_moves c__law_drawn_moves k__law_drawn_moves
  have b__law_drawn_moves := F__law_drawn_moves.binds (ps := ["row", "states", "many"]) fun _ _ _ _ _ _ us hl => match us, hl with | [_, _, _], _ => rfl
  have G__law_drawn_moves := ok__law_drawn_moves (w := w) (mg := mg) (base := base) (a := a) T F__law_drawn_moves 
  have F__law_spoilt := fun_mk (st := s__law_spoilt) l__law_spoilt c__law_spoilt k__law_spoilt
  have b__law_spoilt := F__law_spoilt.binds (ps := ["moves", "states", "row"]) fun _ _ _ _ _ _ us hl => match us, hl with | [_, _, _], _ => rfl
  have G__law_spoilt := ok__law_spoilt (w := w) (mg := mg) (base := base) (a := a) T F__law_spoilt 
  have F__law_first_bad := fun_mk (st := s__law_first_bad) l__law_first_bad c__law_first_bad k__law_first_bad
  have b__law_first_bad := F__law_first_bad.binds (ps := ["states", "moves"]) fun _ _ _ _ _ _ us hl => match us, hl with | [_, _], _ => rfl
  have G__law_first_bad := ok__law_first_bad (w := w) (mg := mg) (base := base) (a := a) T F__law_first_bad 
  have F__law_due := fun_mk (st := s__law_due) l__law_due c__law_due k__law_due
  have b__law_due := F__law_due.binds (ps := ["states", "accepting", "moves"]) fun _ _ _ _ _ _ us hl => match us, hl with | [_, _, _], _ => rfl
  have G__law_due := ok__law_due (w := w) (mg := mg) (base := base) (a := a) T F__law_due ⟨⟨_, _, G__law_first_bad, PySem.W.mg_of X G a__law_first_bad, k__law_first_bad, b__law_first_bad⟩⟩
  have F__law_made := fun_mk (st := s__law_made) l__law_made c__law_made k__law_made
  have b__law_made := F__law_made.binds (ps := ["states", "accepting", "moves"]) fun _ _ _ _ _ _ us hl => match us, hl with | [_, _, _], _ => rfl
  have G__law_made := ok__law_made (w := w) (mg := mg) (base := base) (a := a) T F__law_made ⟨⟨_, _, _, G_Machine_init, ⟨mk_Machine, a_Machine_init, i_Machine_init, kc_Machine⟩, PySem.W.mg_of X G g_Machine, b_Machine_init, .nil⟩⟩
  have F__law_table := fun_mk (st := s__law_table) l__law_table c__law_table k__law_table
  have b__law_table := F__law_table.binds (ps := ["moves"]) fun _ _ _ _ _ _ us hl => match us, hl with | [_], _ => rfl
  have G__law_table := ok__law_table (w := w) (mg := mg) (base := base) (a := a) T F__law_table 
  have F__law_reads := fun_mk (st := s__law_reads) l__law_reads c__law_reads k__law_reads
  have b__law_reads := F__law_reads.binds (ps := ["machine", "states", "accepting", "moves", "words"]) fun _ _ _ _ _ _ us hl => match us, hl with | [_, _, _, _, _], _ => rfl
  have G__law_reads := ok__law_reads (w := w) (mg := mg) (base := base) (a := a) T F__law_reads ⟨⟨_, ⟨a_Machine_callm, i_Machine_callm, fi_Machine_callm⟩, PL.raw0 G_Machine_callm b_Machine_callm⟩⟩ (by obtain ⟨ds, h1, h2⟩ := b_Machine_state_after; exact ⟨⟨_, _, ds, G_Machine_state_after, ⟨a_Machine_state_after, i_Machine_state_after, k_Machine_state_after⟩, h2, h1⟩⟩) (by obtain ⟨ds, h1, h2⟩ := b_Machine_state_after1; exact ⟨⟨_, _, ds, G_Machine_state_after, ⟨a_Machine_state_after, i_Machine_state_after, k_Machine_state_after⟩, h2, h1⟩⟩) ⟨⟨_, _, G__law_same, PySem.W.mg_of X G a__law_same, k__law_same, b__law_same⟩⟩ ⟨⟨_, _, G__law_table, PySem.W.mg_of X G a__law_table, k__law_table, b__law_table⟩⟩
  have F__law_words := fun_mk (st := s__law_words) l__law_words c__law_words k__law_words
  have b__law_words := F__law_words.binds (ps := ["row", "many"]) fun _ _ _ _ _ _ us hl => match us, hl with | [_, _], _ => rfl
  have G__law_words := ok__law_words (w := w) (mg := mg) (base := base) (a := a) T F__law_words 
  have F__law_world := fun_mk (st := s__law_world) l__law_world c__law_world k__law_world
  have b__law_world := F__law_world.binds (ps := ["row"]) fun _ _ _ _ _ _ us hl => match us, hl with | [_], _ => rfl
  have G__law_world := ok__law_world (w := w) (mg := mg) (base := base) (a := a) T F__law_world ⟨⟨_, _, G__law_drawn_moves, PySem.W.mg_of X G a__law_drawn_moves, k__law_drawn_moves, b__law_drawn_moves⟩⟩ ⟨⟨_, _, G__law_words, PySem.W.mg_of X G a__law_words, k__law_words, b__law_words⟩⟩
  have F__law_holds := fun_mk (st := s__law_holds) l__law_holds c__law_holds k__law_holds
  have b__law_holds := F__law_holds.binds (ps := ["states", "accepting", "moves", "words"]) fun _ _ _ _ _ _ us hl => match us, hl with | [_, _, _, _], _ => rfl
  have G__law_holds := ok__law_holds (w := w) (mg := mg) (base := base) (a := a) T F__law_holds ⟨⟨_, _, G__law_due, PySem.W.mg_of X G a__law_due, k__law_due, b__law_due⟩⟩ ⟨⟨_, _, G__law_made, PySem.W.mg_of X G a__law_made, k__law_made, b__law_made⟩⟩ ⟨⟨_, _, G__law_reads, PySem.W.mg_of X G a__law_reads, k__law_reads, b__law_reads⟩⟩ ⟨⟨_, _, G__law_same, PySem.W.mg_of X G a__law_same, k__law_same, b__law_same⟩⟩
  have F_law := fun_mk (st := s_law) l_law c_law k_law
  have b_law := F_law.binds (ps := ["script"]) fun _ _ _ _ _ _ us hl => match us, hl with | [_], _ => rfl
  have G_law := ok_law (w := w) (mg := mg) (base := base) (a := a) T F_law ⟨⟨_, _, G__law_holds, PySem.W.mg_of X G a__law_holds, k__law_holds, b__law_holds⟩⟩ ⟨⟨_, _, G__law_made, PySem.W.mg_of X G a__law_made, k__law_made, b__law_made⟩⟩ ⟨⟨_, _, G__law_reads, PySem.W.mg_of X G a__law_reads, k__law_reads, b__law_reads⟩⟩ ⟨⟨_, _, G__law_row, PySem.W.mg_of X G a__law_row, k__law_row, b__law_row⟩⟩ ⟨⟨_, _, G__law_spoilt, PySem.W.mg_of X G a__law_spoilt, k__law_spoilt, b__law_spoilt⟩⟩ ⟨⟨_, _, G__law_world, PySem.W.mg_of X G a__law_world, k__law_world, b__law_world⟩⟩
  exact G_law
end K66

set_option Elab.async false
set_option linter.all false
open PySem PySem.W PyProof.Rows in
set_option maxRecDepth 100000 in
set_option maxHeartbeats 0 in
theorem PySem.Challenge.cw_adjoinedtongues_k66_machines_read_string_holds : PySem.Challenge.rw_adjoinedtongues_k66_machines_read_string.Holds := by
  w_on; o_law; k_head; (case hw => w_witness2)
  k_fill
  refine PL.walk_law (k := 6) (l := PySem.Challenge.rw_adjoinedtongues_k66_machines_read_string) rfl rfl ⟨rfl, by decide, by decide⟩ (fun w h Y => PySem.W.kIn_of Y) ?F
  case F =>
    intro w mg fa h KX G hmg
    refine' K66.all_mk KX G hmg ?g_Machine ?g_Fault ?g_TooMany ?g_BadMachine ?a_is_state ?l_is_state ?c_is_state ?k_is_state ?a_Machine_init ?i_Machine_init ?l_Machine_init ?c_Machine_init ?k_Machine_init ?a_Machine_state_after ?i_Machine_state_after ?l_Machine_state_after ?c_Machine_state_after ?k_Machine_state_after ?d_Machine_state_after ?a_Machine_callm ?i_Machine_callm ?fi_Machine_callm ?l_Machine_callm ?c_Machine_callm ?k_Machine_callm ?a__law_row ?l__law_row ?c__law_row ?k__law_row ?a__law_same ?l__law_same ?c__law_same ?k__law_same ?a__law_drawn_moves ?l__law_drawn_moves ?c__law_drawn_moves ?k__law_drawn_moves ?a__law_spoilt ?l__law_spoilt ?c__law_spoilt ?k__law_spoilt ?a__law_first_bad ?l__law_first_bad ?c__law_first_bad ?k__law_first_bad ?a__law_due ?l__law_due ?c__law_due ?k__law_due ?a__law_made ?l__law_made ?c__law_made ?k__law_made ?a__law_table ?l__law_table ?c__law_table ?k__law_table ?a__law_reads ?l__law_reads ?c__law_reads ?k__law_reads ?a__law_words ?l__law_words ?c__law_words ?k__law_words ?a__law_world ?l__law_world ?c__law_world ?k__law_world ?a__law_holds ?l__law_holds ?c__law_holds ?k__law_holds ?a_law ?l_law ?c_law ?k_law ?pg_Machine ?hd_Machine ?po_Machine ?sa_Machine ?mk_Machine ?kc_Machine ?n_Machine_states ?n_Machine_accepting ?n_Machine_moves ?n_Machine__after ?z_len ?z_int ?z_min ?z_max ?z_range ?z_isinstance ?z_list ?z_tuple ?z_bool ?z_str ?z_set ?z_sorted ?z_enumerate ?z_ValueError ?z_super ?g_LETTERS ?g_MOST_STATES ?xga_TooMany ?xgg_TooMany ?xbe_TooMany ?xhd_TooMany ?xca_TooMany ?xhm_TooMany ?xn_TooMany ?xcls_TooMany ?xrv_TooMany ?xsa_TooMany ?xiC_TooMany ?xtI_TooMany ?xkC_TooMany ?xve_TooMany ?xty_TooMany ?xmro_TooMany ?xsup_TooMany ?xga_BadMachine ?xgg_BadMachine ?xbe_BadMachine ?xhd_BadMachine ?xca_BadMachine ?xhm_BadMachine ?xn_BadMachine ?xcls_BadMachine ?xrv_BadMachine ?xsa_BadMachine ?xiC_BadMachine ?xtI_BadMachine ?xkC_BadMachine ?xve_BadMachine ?xty_BadMachine ?xmro_BadMachine ?xsup_BadMachine ?spn ?stk ?opq ?fbe ?fhd ?fty ?sTF ?sBF ?sTB ?sBT ?ne_TB ?ne_BT ?xl_TooMany ?xc_TooMany ?xd_TooMany ?xcc_TooMany ?xf_TooMany ?xb_TooMany ?xs_TooMany ?xl_BadMachine ?xc_BadMachine ?xd_BadMachine ?xcc_BadMachine ?xf_BadMachine ?xb_BadMachine ?xs_BadMachine ?top
    (case g_Machine => k_is)
    (case g_Fault => k_is)
    (case g_TooMany => k_is)
    (case g_BadMachine => k_is)
    (case a_is_state => k_is)
    (case l_is_state => k_is)
    (case c_is_state => k_is)
    (case k_is_state => k_is)
    (case a_Machine_init => k_is)
    (case i_Machine_init => k_is)
    (case l_Machine_init => k_is)
    (case c_Machine_init => k_is)
    (case k_Machine_init => k_is)
    (case a_Machine_state_after => k_is)
    (case i_Machine_state_after => k_is)
    (case l_Machine_state_after => k_is)
    (case c_Machine_state_after => k_is)
    (case k_Machine_state_after => k_is)
    (case d_Machine_state_after => k_is)
    (case a_Machine_callm => k_is)
    (case i_Machine_callm => k_is)
    (case fi_Machine_callm => k_is)
    (case l_Machine_callm => k_is)
    (case c_Machine_callm => k_is)
    (case k_Machine_callm => k_is)
    (case a__law_row => k_is)
    (case l__law_row => k_is)
    (case c__law_row => k_is)
    (case k__law_row => k_is)
    (case a__law_same => k_is)
    (case l__law_same => k_is)
    (case c__law_same => k_is)
    (case k__law_same => k_is)
    (case a__law_drawn_moves => k_is)
    (case l__law_drawn_moves => k_is)
    (case c__law_drawn_moves => k_is)
    (case k__law_drawn_moves => k_is)
    (case a__law_spoilt => k_is)
    (case l__law_spoilt => k_is)
    (case c__law_spoilt => k_is)
    (case k__law_spoilt => k_is)
    (case a__law_first_bad => k_is)
    (case l__law_first_bad => k_is)
    (case c__law_first_bad => k_is)
    (case k__law_first_bad => k_is)
    (case a__law_due => k_is)
    (case l__law_due => k_is)
    (case c__law_due => k_is)
    (case k__law_due => k_is)
    (case a__law_made => k_is)
    (case l__law_made => k_is)
    (case c__law_made => k_is)
    (case k__law_made => k_is)
    (case a__law_table => k_is)
    (case l__law_table => k_is)
    (case c__law_table => k_is)
    (case k__law_table => k_is)
    (case a__law_reads => k_is)
    (case l__law_reads => k_is)
    (case c__law_reads => k_is)
    (case k__law_reads => k_is)
    (case a__law_words => k_is)
    (case l__law_words => k_is)
    (case c__law_words => k_is)
    (case k__law_words => k_is)
    (case a__law_world => k_is)
    (case l__law_world => k_is)
    (case c__law_world => k_is)
    (case k__law_world => k_is)
    (case a__law_holds => k_is)
    (case l__law_holds => k_is)
    (case c__law_holds => k_is)
    (case k__law_holds => k_is)
    (case a_law => k_is)
    (case l_law => k_is)
    (case c_law => k_is)
    (case k_law => k_is)
    (case pg_Machine => k_is)
    (case hd_Machine => k_is)
    (case po_Machine => k_is)
    (case sa_Machine => k_is)
    (case mk_Machine => k_is)
    (case kc_Machine => k_is)
    (case n_Machine_states => k_is)
    (case n_Machine_accepting => k_is)
    (case n_Machine_moves => k_is)
    (case n_Machine__after => k_is)
    (case z_len => k_is)
    (case z_int => k_is)
    (case z_min => k_is)
    (case z_max => k_is)
    (case z_range => k_is)
    (case z_isinstance => k_is)
    (case z_list => k_is)
    (case z_tuple => k_is)
    (case z_bool => k_is)
    (case z_str => k_is)
    (case z_set => k_is)
    (case z_sorted => k_is)
    (case z_enumerate => k_is)
    (case z_ValueError => k_is)
    (case z_super => k_is)
    (case g_LETTERS => k_is)
    (case g_MOST_STATES => k_is)
    (case xga_TooMany => k_is)
    (case xgg_TooMany => k_is)
    (case xbe_TooMany => k_is)
    (case xhd_TooMany => k_is)
    (case xca_TooMany => k_is)
    (case xhm_TooMany => k_is)
    (case xn_TooMany => k_is)
    (case xcls_TooMany => k_is)
    (case xrv_TooMany => decide +kernel)
    (case xsa_TooMany => k_is)
    (case xiC_TooMany => k_is)
    (case xtI_TooMany => k_is)
    (case xkC_TooMany => k_is)
    (case xve_TooMany => k_is)
    (case xty_TooMany => k_is)
    (case xmro_TooMany => k_is)
    (case xsup_TooMany => ks_is)
    (case xga_BadMachine => k_is)
    (case xgg_BadMachine => k_is)
    (case xbe_BadMachine => k_is)
    (case xhd_BadMachine => k_is)
    (case xca_BadMachine => k_is)
    (case xhm_BadMachine => k_is)
    (case xn_BadMachine => k_is)
    (case xcls_BadMachine => k_is)
    (case xrv_BadMachine => decide +kernel)
    (case xsa_BadMachine => k_is)
    (case xiC_BadMachine => k_is)
    (case xtI_BadMachine => k_is)
    (case xkC_BadMachine => k_is)
    (case xve_BadMachine => k_is)
    (case xty_BadMachine => k_is)
    (case xmro_BadMachine => k_is)
    (case xsup_BadMachine => ks_is)
    (case spn => k_is)
    (case stk => k_is)
    (case opq => k_is)
    (case fbe => k_is)
    (case fhd => k_is)
    (case fty => k_is)
    (case sTF => k_is)
    (case sBF => k_is)
    (case sTB => k_is)
    (case sBT => k_is)
    (case ne_TB => rfl)
    (case ne_BT => rfl)
    (case xl_TooMany => k_is)
    (case xc_TooMany => k_is)
    (case xd_TooMany => k_is)
    (case xcc_TooMany => k_is)
    (case xf_TooMany => exact ⟨_, _, rfl, by decide +kernel, rfl, rfl, rfl, rfl, rfl, rfl, rfl, by decide +kernel⟩)
    (case xb_TooMany => exact fun _ _ => rfl)
    (case xs_TooMany => exact ⟨_, fun _ => rfl⟩)
    (case xl_BadMachine => k_is)
    (case xc_BadMachine => k_is)
    (case xd_BadMachine => k_is)
    (case xcc_BadMachine => k_is)
    (case xf_BadMachine => exact ⟨_, _, rfl, by decide +kernel, rfl, rfl, rfl, rfl, rfl, rfl, rfl, by decide +kernel⟩)
    (case xb_BadMachine => exact fun _ _ => rfl)
    (case xs_BadMachine => exact ⟨_, fun _ => rfl⟩)
    (case top => first | rfl | decide +kernel)
#print axioms PySem.Challenge.cw_adjoinedtongues_k66_machines_read_string_holds
