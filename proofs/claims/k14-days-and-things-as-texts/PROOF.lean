import PyProof.Rows.All
import Wide.All
import OpenK.AllK
import Wide.FinOn
import KE.KExcSuper
import HandS.ForExc
import HandS.ExcInit
import HandS.ForMost
import HandS.Lambda
import HandS.IsInst
import HandS.Wide
import HandS.TupAny
import HandS.Style
import HandS.Walk
import HandS.Zip
import HandS.Comp
import HandS.ExcField
import HandS.HeadHook4
import HandS.HeadWalk
import HandS.Head2
import KE.KStateDown
import KE.GoesEnum
import KE.GoesZip
import KE.GoesMore
import KE.KDictZip
import HandS.TupMul
import HandS.Deep
import HandS.SortInts
import PyProof.SumWalkG
import PyProof.WalksMore
import KE.SortKeyHeap
import HandS.Conv
import PyProof.Rows.CallKwBuiltin
import HandS.SetFor
import HandS.Strs
import KE.SortData
import KE.DataCmp
import KE.DataMinMax
import HandS.Sort
import HandS.Set
import HandS.Dict
import HandS.More
import KE.KDictKeyed
import KE.KDictLaw
import HandS.Remove
import PyProof.P3In
import PyProof.Rows.SeqMore
import KE.KMinKey
import HandS.Codes
import PySem.Challenge.RW_smokehung_k14_whole_days_and_things_as_t
set_option Elab.async false
set_option linter.all false
set_option maxRecDepth 100000
set_option maxHeartbeats 600000
/-! own exception classes whose maker says super().__init__(x) and keeps x -/
namespace Sx
open PySem PySem.Spec PyProof.Rows L2

/-- the body of such a maker -/
abbrev eBody (fl : Str) (p0 p1 p2 p3 p4 p5 p6 p7 p8 p9 : Pos) : List Stmt := [
  .Expr (.Call (.Attribute (.Call (.Name "super" p0) [] [] p1) "__init__" p2) [.Name fl p3] [] p4) p5,
  .Assign [.Attribute (.Name "self" p6) fl p7] (.Name fl p8) p9]
abbrev eArgs (fl : Str) (q0 q1 : Pos) : Arguments :=
  { posonlyargs := [], args := [{ arg := "self", annotation := none, pos := q0 : Arg }, { arg := fl, annotation := none, pos := q1 : Arg }], vararg := none, kwonlyargs := [], kw_defaults := [], kwarg := none, defaults := [] }
abbrev eScope (fl : Str) : Scope :=
  { kind := ScopeKind.function, names := [("self", NameKind.local), (fl, NameKind.local), ("__class__", NameKind.free), ("super", NameKind.globalImplicit)], isGenerator := false, isCoroutine := false, more := [] }

section
variable (P : Program) (w : World) (K : PySem.W.Frag) (mg : Str → Option Value) (base : Heap)
def cxE (CXq : CXT) (fl qual : Str) (f : Addr) (cd : Value) (cc : Addr) (A : Around) (outer : List Env) (s : Shared) (H : Hp) (E : XK) : Cx where
  prog := P
  w := w
  K := K
  mg := mg
  base := base
  A := A.deeper (PySem.W.ksEnv qual (eScope fl) s.heap.objs.size f cd cc)
  N := ["self", fl]
  s_0 := s
  H_0 := H
  env := PySem.W.ksEnv qual (eScope fl) s.heap.objs.size f cd cc
  outer := outer
  stack := PySem.W.ksEnv qual (eScope fl) s.heap.objs.size f cd cc :: outer
  ex := []
  calm := true
  fn := fun _ => false
  pn := []
  xe := fun e s' => wpAny (model P w) (A.deeper (PySem.W.ksEnv qual (eScope fl) s.heap.objs.size f cd cc)) (leaving (PySem.W.ksEnv qual (eScope fl) s.heap.objs.size f cd cc) e)
    (fun _ s'' => CXq outer H s E e s'') (fun e' s'' => CXq outer H s E e' s'') s'
end

/-- the call's own line: where its positions are written this is rfl -/
def SupCall (fl : Str) (p0 p1 p2 p3 p4 : Pos) : Prop := ∃ pl : Env → Sem Bool, ∀ env : Env, eval (.Call (.Attribute (.Call (.Name "super" p0) [] [] p1) "__init__" p2) [.Name fl p3] [] p4) env = (do
  let ov ← attributeBase (.Call (.Name "super" p0) [] [] p1) "__init__" env (eval (.Call (.Name "super" p0) [] [] p1) env)
  standAt p2.atName
  let (g, first) ← holding [ov] (getMethod ov "__init__" (pl env))
  callWith p4 g first (backTo p4 (starEach [.Name fl p3] env)) [])
/-- what the written part tells of such a class -/
structure ETxt (P : Program) (K : PySem.W.Frag) (mg : Str → Option Value) (fl qual : Str) (C f cc ca : Addr) (fd : FuncData) : Prop where
  ox : OexC K C
  cls : ∃ cd, PySem.W.clsIn K C = some cd
  sup : PySem.W.ks_superIn K C C "__init__" = some (some (.builtin "ValueError.__init__"))
  sV : PySem.W.subIn K (.ref C) (.type "ValueError") = some true
  op : PySem.W.nsIn K cStatics "thirdparty.any" = some none
  own : PySem.W.mroIn K C (.ref C) = some true
  cel : ∃ a b c, K.lookup cc = some ⟨a, b, .cell (some (.ref C)), c⟩
  code : ∃ a b c vs file tf, K.lookup ca = some ⟨a, b, .fields vs, c⟩ ∧ vs[2]? = some (.str file tf) ∧ ((P.main.file : Str) == file) = true
  top : (P.main.scope.names.lookup ("super" : Str)).isSome = false
  noF : PySem.W.findIn K (.ref C) fl = some none
  ini : PySem.W.findIn K (.ref C) "__init__" = some (some (.ref f))
  tyf : PySem.W.typeIn K (.ref f) = some (.type "function")
  ms : mg "super" = none
  fn : ∃ q0 q1 p0 p1 p2 p3 p4 p5 p6 p7 p8 p9 kV doc pm an ct a b c,
    fd = PySem.W.ksFn "__init__" qual (eArgs fl q0 q1) (eBody fl p0 p1 p2 p3 p4 p5 p6 p7 p8 p9) (eScope fl) .none kV doc pm an (.ref ca) ct cc ∧ K.lookup f = some ⟨a, b, .func fd, c⟩ ∧ SupCall fl p0 p1 p2 p3 p4
  cod : PySem.W.codeIn K (.ref ca) qual = true

def spE (C : Addr) (fl : Str) : Sp := fun vs H Q _ => ∃ (a : Addr) (y : V), vs = [.ref a, y] ∧ H a = some (exo a C none) ∧
  ∀ dx, H dx = none → dx ≠ a → Q .non (upd (upd H dx (exd dx [(fl, y)])) a (exo a C (some dx)))

section
variable {P : Program} {w : World} {K : PySem.W.Frag} {mg : Str → Option Value} {base : Heap}

/-- a fresh super object's method, called with arguments: the exception's args are laid anew -/
theorem call_mw {A : Around} {Ex : Value → Shared → Prop} {X : Cx} {pins : List (Addr × Obj)} {σ : L2.St} {H : Hp} {s : Shared} {u a C : Addr} {us : List Value} {Q : Value → Shared → Prop}
    (T : OexC X.K C) (I : Inv X pins σ H s) (hu : s.heap.get? u = some (PySem.W.kxs_mw "ValueError.__init__" a)) (e : H a = some (exo a C none)) (hl : us.length ≤ sizeLine) (h : ∀ s', Inv X pins σ H s' → Q .none s') :
    wpAny (model X.prog X.w) A (call (.ref u) us) Q Ex s := by
  obtain ⟨nm, q, N, bs, bm, sn, sub, ab, col, dd, k0, k1, k2, k3, k5, hC, hbm⟩ := T.cls
  obtain ⟨t1, ho⟩ := exo_at I.hok e
  have hC' := I.kIn _ _ hC
  obtain ⟨hp, g, d, t, os⟩ := s
  have fin : ∀ h', (∀ b o, b ≠ a → hp.get? b = some o → h'.get? b = some o) → h'.get? a = some (PySem.W.excRec (.ref C) hp.objs.size none .none .none (.bool false)) → Q .none ⟨h', g, d, t, os⟩ := fun h' k hx => by
    have J := I.write (t' := t) (x := a) (e := a) (o := exo a C none) (by rw [e]; exact True.intro) (.inl rfl) k ⟨_, hx⟩ (exo_ok hx)
    have eu : upd H a (exo a C none) = H := by
      funext b
      by_cases hb : b = a
      · rw [hb, upd_same, e]
      · rw [upd_ne hb]
    rw [eu] at J
    exact h _ J
  refine wpAny_call (codeAny_of_tree ?_)
  show wpAny _ A.in1 (callAny (.ref u) ⟨us, []⟩) _ _ _
  simp only [callAny]
  refine wpAny_bind (wpAny_load hu ?_)
  have isM : (Value.type "method-wrapper" == Value.type "method" || Value.type "method-wrapper" == Value.type "builtin_function_or_method" || Value.type "method-wrapper" == Value.type "method-wrapper") = true := by decide
  have noM : (Value.type "method-wrapper" != Value.type "method") = true := by decide
  simp only [PySem.W.kxs_mw, isM, if_true]
  refine PySem.W.KFB.if_so noM ?_
  refine wpAny_bind (PySem.W.check_bound_init PySem.F.excBase_ValueError.toExcCallFacts hC' ho rfl ?_)
  refine wpAny_bind (wpAny_pure (wpAny_pure ?_))
  refine ⟨plainId_quiet PySem.F.excBase_ValueError.init.plain _, codeAny_builtin PySem.F.excBase_ValueError.initEntry ?_⟩
  exact PySem.W.exc_init_tree (cls := .ref C) (t0 := t1) (dv := none) (c2 := .none) (c3 := .none) (b4 := .bool false) ho hl fun h' k hx _ => fin h' k hx

theorem ok_init {CXq : CXT} {fl qual : Str} {C f cc ca : Addr} {fd : FuncData} {k : Nat} (T : ETxt P K mg fl qual C f cc ca fd) (n1 : fl ≠ "self") (n2 : fl ≠ "super") (n3 : fl ≠ "__class__")
    (nd : (fl == ("__debug__" : Str)) = false) (nc : (fl == ("__classdict__" : Str)) = false) : FnOk P w K mg base CXq (k + 1) f fd ["self", fl] (spE C fl) := by
  refine ⟨fun vs H Q E h => by obtain ⟨a, y, rfl, _⟩ := h; rfl, fun A outer s H args us vs Q E hr e0 hb r hsp => ?_⟩
  obtain ⟨a, y, rfl, ha, hq⟩ := hsp
  obtain ⟨u0, u1, rfl, r0, r1⟩ : ∃ u0 u1, us = [u0, u1] ∧ RelV (.ref a) u0 ∧ RelV y u1 := by
    cases r with
    | cons r0 r' =>
      cases r' with
      | cons r1 r'' =>
        cases r''
        exact ⟨_, _, rfl, r0, r1⟩
  obtain rfl : u0 = .ref a := r0
  obtain ⟨q0, q1, p0, p1, p2, p3, p4, p5, p6, p7, p8, p9, kV, doc, pm, an, ct, oa, ob, oc, rfl, lk, pl, hpl⟩ := T.fn
  have KX : K.In s.heap := e0.mod.kin.keeps fun b o e => (e0.bs b o e).1
  have lim : s.heap.NoLimit := e0.mod.nolimit.keeps fun b o e => (e0.bs b o e).1
  obtain ⟨ca1, ca2, ca3, cel⟩ := T.cel
  have nfl : ¬ (fl = ("self" : Str)) := n1
  have lkS : (eScope fl).names.lookup ("self" : Str) = some .local := rfl
  have lkF : (eScope fl).names.lookup fl = some .local := by
    show List.lookup fl (eScope fl).names = _
    rw [show (eScope fl).names = [(("self" : Str), NameKind.local), (fl, NameKind.local), (("__class__" : Str), NameKind.free), (("super" : Str), NameKind.globalImplicit)] from rfl, List.lookup_cons, show (fl == ("self" : Str)) = false from by simpa using n1, List.lookup_cons]
    simp
  have lkU : (eScope fl).names.lookup ("super" : Str) = some .globalImplicit := by
    show List.lookup ("super" : Str) (eScope fl).names = _
    rw [show (eScope fl).names = [(("self" : Str), NameKind.local), (fl, NameKind.local), (("__class__" : Str), NameKind.free), (("super" : Str), NameKind.globalImplicit)] from rfl, List.lookup_cons, show (("super" : Str) == ("self" : Str)) = false from by decide, List.lookup_cons, show (("super" : Str) == fl) = false from by simpa using Ne.symm n2, List.lookup_cons, show (("super" : Str) == ("__class__" : Str)) = false from by decide, List.lookup_cons]
    simp
  have lkC : (eScope fl).names.lookup ("__class__" : Str) = some .free := by
    show List.lookup ("__class__" : Str) (eScope fl).names = _
    rw [show (eScope fl).names = [(("self" : Str), NameKind.local), (fl, NameKind.local), (("__class__" : Str), NameKind.free), (("super" : Str), NameKind.globalImplicit)] from rfl, List.lookup_cons, show (("__class__" : Str) == ("self" : Str)) = false from by decide, List.lookup_cons, show (("__class__" : Str) == fl) = false from by simpa using Ne.symm n3, List.lookup_cons]
    simp
  refine PySem.ks_codeAny_call_defAt hr.depth (KX _ _ lk) rfl lim (PySem.W.codeRec_of KX T.cod) rfl hb (fun x hx => ?_) (fun x hx => ?_) (fun h0 hns kk => ?_) rfl rfl rfl
  · have hx' : x ∈ (eScope fl).names := hx
    simp only [List.mem_cons, List.not_mem_nil, or_false] at hx'
    rcases hx' with rfl | rfl | rfl | rfl <;> (intro z; cases z)
  · have hx' : x ∈ [(("self" : Str), Value.ref a), (fl, u1)] := hx
    simp only [List.mem_cons, List.not_mem_nil, or_false] at hx'
    rcases hx' with rfl | rfl
    · exact lkS
    · exact lkF
  have nL : s.heap.objs.size ≠ cc := fun z => by
    have h1 := Heap.lt_size (KX _ _ cel)
    rw [← z] at h1
    exact Nat.lt_irrefl _ h1
  have I : L2.Inv (cxE P w K mg base CXq fl qual f (.ref ca) cc A outer s H E) [] [some (.ref a), some y] H { s with heap := h0, toks := s.toks + ([("self" : Str), fl].zip [Value.ref a, u1]).length } := by
    have cellsX : ∀ x c, List.lookup x [(("__class__" : Str), cc)] = some c → c = cc := fun x c h => by
      rw [List.lookup_cons] at h
      split at h
      · exact (Option.some.inj h).symm
      · cases h
    have ccb : base.get? cc = some ⟨ca1, ca2, .cell (some (.ref C)), ca3⟩ := e0.mod.kin _ _ cel
    refine ⟨⟨e0.mod, rfl, rfl, rfl, Nat.le_refl _, fun y z c h1 h2 => ?_, fun y hy => ?_, fun y c h => (nomatch h), fun _ => hr.hd, Around.frames_deeper e0.frames, .inr ⟨rfl, rfl⟩, fun b z => (nomatch z), e0.bs, e0.bsz, fun b _ _ z => (nomatch z), fun b z => (nomatch z), e0.funs, e0.frf⟩,
      rfl, e0.bare, Un.kept kk, ⟨_, hns, fun i x v h1 h2 h3 => ?_⟩, fun x c h => ?_, e0.hok.fresh (Nat.le_refl _), fun x c h => ?_, fun p hp => (nomatch hp), e0.hok.kept kk, rfl⟩
    · exact (by
        have e1 : y = "__class__" := by
          have h1' : List.lookup y [(("__class__" : Str), cc)] = some c := h1
          rw [List.lookup_cons] at h1'
          split at h1'
          · rename_i q
            simpa using q
          · cases h1'
        have e2 : z = "__class__" := by
          have h1' : List.lookup z [(("__class__" : Str), cc)] = some c := h2
          rw [List.lookup_cons] at h1'
          split at h1'
          · rename_i q
            simpa using q
          · cases h1'
        rw [e1, e2])
    · have hy' : (eScope fl).names.lookup y = some .cell ∨ (eScope fl).names.lookup y = some .free := hy
      have e1 : y = "__class__" := by
        by_cases e0 : y = "self"
        · rw [e0, lkS] at hy'
          rcases hy' with z | z <;> cases z
        by_cases e2 : y = fl
        · rw [e2, lkF] at hy'
          rcases hy' with z | z <;> cases z
        by_cases e3 : y = "super"
        · rw [e3, lkU] at hy'
          rcases hy' with z | z <;> cases z
        have e0' : (y == ("self" : Str)) = false := by simpa using e0
        have e2' : (y == fl) = false := by simpa using e2
        have e3' : (y == ("super" : Str)) = false := by simpa using e3
        by_cases e4 : y = "__class__"
        · exact e4
        have e4' : (y == ("__class__" : Str)) = false := by simpa using e4
        rw [show (eScope fl).names = [(("self" : Str), NameKind.local), (fl, NameKind.local), (("__class__" : Str), NameKind.free), (("super" : Str), NameKind.globalImplicit)] from rfl,
          List.lookup_cons, e0', List.lookup_cons, e2', List.lookup_cons, e4', List.lookup_cons, e3'] at hy'
        rcases hy' with z | z <;> cases z
      exact ⟨cc, by rw [e1]; rfl⟩
    · match i, h1, h2 with
      | 0, h1, h2 =>
        obtain rfl : "self" = x := Option.some.inj h1
        obtain rfl : V.ref a = v := Option.some.inj (Option.some.inj h2)
        refine ⟨.ref a, rfl, .inl ⟨lkS, ?_⟩⟩
        show List.lookup ("self" : Str) [(fl, u1), (("self" : Str), Value.ref a)] = _
        rw [List.lookup_cons, show (("self" : Str) == fl) = false from by simpa using Ne.symm n1]
        rfl
      | 1, h1, h2 =>
        obtain rfl : fl = x := Option.some.inj h1
        obtain rfl : y = v := Option.some.inj (Option.some.inj h2)
        refine ⟨u1, r1, .inl ⟨lkF, ?_⟩⟩
        show List.lookup fl [(fl, u1), (("self" : Str), Value.ref a)] = _
        rw [List.lookup_cons]
        simp
      | i + 2, h1, h2 => exact absurd h1 (by simp [cxE])
    · rw [cellsX x c h]
      exact ⟨_, _, kk _ _ (KX _ _ cel), rfl⟩
    · rw [cellsX x c h]
      exact (e0.bs _ _ ccb).2
  obtain ⟨c1, c2, c3, vs, file, tf, lc, hvs, hfile⟩ := T.code
  show PySem.wpAt (model P w) (A.deeper (PySem.W.ksEnv qual (eScope fl) s.heap.objs.size f (.ref ca) cc)) (.func _ (PySem.W.ksEnv qual (eScope fl) s.heap.objs.size f (.ref ca) cc))
    (execs (eBody fl p0 p1 p2 p3 p4 p5 p6 p7 p8 p9) (PySem.W.ksEnv qual (eScope fl) s.heap.objs.size f (.ref ca) cc)) _ _ _
  refine PySem.ks_wpAt_execs_cons (PySem.ks_wpAt_Expr_any (PySem.ks_wpAt_MethodCall ?_ (hpl _)))
  refine PySem.ks_wpAt_super_base lkU lkC rfl rfl (I.kIn _ _ lk) rfl rfl rfl (I.kIn _ _ lc) rfl hvs hfile T.top ?_
  obtain ⟨mb, hb1, hb2⟩ := e0.mod.blt
  refine PySem.W.ks_loadName_global (by rfl) lkU (Calls.loadGlobal_builtin (e0.mod.glob.keeps I.bk) T.ms (hb1.keeps I.bk) ((hb2 _ (by decide)).trans (by decide +kernel)) ⟨rfl, ?_⟩)
  refine wpAny_loadName_free (by rfl) lkC rfl ⟨_, I.kIn _ _ cel, rfl⟩ ?_
  refine wpAny_loadName_local (v := .ref a) (by rfl) lkS hns ?_ ?_
  · show List.lookup ("self" : Str) [(fl, u1), (("self" : Str), Value.ref a)] = _
    rw [List.lookup_cons, show (("self" : Str) == fl) = false from by simpa using Ne.symm n1]
    rfl
  obtain ⟨cd, hcd⟩ := T.cls
  obtain ⟨oD, lD, dD⟩ : ∃ oD, K.lookup C = some oD ∧ oD.data = .cls cd := by
    unfold PySem.W.clsIn at hcd
    split at hcd
    · rename_i a1 a2 a3 a4 a5
      cases hcd
      exact ⟨_, a5, rfl⟩
    · cases hcd
  obtain ⟨t1, hob⟩ := exo_at I.hok ha
  refine PySem.ks_wpAny_isType_cls (I.kIn _ _ lD) dD ⟨rfl, ?_⟩
  refine PySem.ks_wpAny_call_super (I.kIn _ _ lD) dD hob rfl (fun c z => by cases z) (PySem.W.looks_mroIn I.kIn T.own) (fun h1 e1 k1 => ?_)
  have I1 := I.kept (t' := s.toks + ([("self" : Str), fl].zip [Value.ref a, u1]).length) k1
  have hob1 := k1 _ _ hob
  have hsup : PySem.W.alongIn K "__init__" ((cd.mro.dropWhile (· != .ref C)).drop 1) = some (some (.builtin "ValueError.__init__")) := by
    have := T.sup
    unfold PySem.W.ks_superIn at this
    rw [hcd] at this
    exact this
  have IA : PySem.W.InstAt h1 a { cls := .ref C, dict := none, data := .fields #[.ref t1, .none, .none, .none, .bool false, .none] } C none := ⟨hob1, rfl, rfl, trivial⟩
  refine PySem.W.kxs_getMethod PySem.W.kxs_ValueError e1 (PySem.W.looks_opaque I1.kIn T.op) (l₀ := cd.mro) (fun A Q E s k q => wpAny_bind ((PySem.W.looks_clsIn I1.kIn hcd) A _ E s k (wpAny_pure q))) rfl I1.kIn hsup
    (IA.type.andThen (PySem.W.looks_subIn I1.kIn T.sV)) (PySem.W.ks_ne I1.kIn IA hcd) rfl ?_
  have I2 := I1.kept (t' := s.toks + ([("self" : Str), fl].zip [Value.ref a, u1]).length + 1) (h' := h1.push (PySem.W.kxs_mw "ValueError.__init__" a)) (fun b o e => Heap.get?_push_of_some _ e)
  have hu : (h1.push (PySem.W.kxs_mw "ValueError.__init__" a)).get? h1.objs.size = some (PySem.W.kxs_mw "ValueError.__init__" a) := Heap.get?_push_at rfl rfl
  have NW : News base s.heap.objs.size (h1.push (PySem.W.kxs_mw "ValueError.__init__" a)) [(h1.objs.size, PySem.W.kxs_mw "ValueError.__init__" a)] := fun p hp => by
    obtain rfl : p = (h1.objs.size, PySem.W.kxs_mw "ValueError.__init__" a) := by simpa using hp
    refine ⟨hu, fun z => ?_, Heap.get?_none_of_le ?_⟩
    · have z1 := I1.lt
      exact Nat.lt_irrefl _ (show h1.objs.size < h1.objs.size from lt_of_eq_of_lt z z1)
    · exact Nat.le_trans e0.bsz (I1.sz)
  refine PySem.W.kxs_callWith1 (i := "ValueError.__init__") (x := a) NW (List.mem_singleton.mpr rfl) ?_
  have pF : PA (cxE P w K mg base CXq fl qual f (.ref ca) cc A outer s H E) [.Name fl p3] (tCons (tVar 1) tNil) := pa_cons (pe_var (i := 1) rfl (.inl lkF) nd nc) pa_nil
  refine wpAny_mono (pF.run p4 [(h1.objs.size, PySem.W.kxs_mw "ValueError.__init__" a)] _ _ H (fun vs H' => vs = [y] ∧ H' = H) (I2.pins_of ?_) ⟨y, rfl, rfl, rfl⟩) ?_ (fun e s' h => h)
  · intro p hp
    obtain rfl : p = (h1.objs.size, PySem.W.kxs_mw "ValueError.__init__" a) := by simpa using hp
    refine ⟨hu, I1.hok.fresh (Nat.le_refl _), (NW _ (List.mem_singleton.mpr rfl)).2.1, I1.nofs (Nat.le_refl _), fun v z => by cases z⟩
  intro us s3 ⟨vs3, H3, I3, rv3, ev3, eH3⟩
  subst ev3 eH3
  obtain ⟨u3, rfl, ru3⟩ : ∃ u3, us = [u3] ∧ RelV y u3 := by
    cases rv3 with
    | cons r0 r' =>
      cases r'
      exact ⟨_, rfl, r0⟩
  have pu := I3.pin (h1.objs.size, PySem.W.kxs_mw "ValueError.__init__" a) (by simp)
  refine ⟨pu.1, call_mw T.ox I3 pu.1 ha (by show 1 ≤ sizeLine; decide) fun s4 I4 => ?_⟩
  have pS : PSs (cxE P w K mg base CXq fl qual f (.ref ca) cc A outer s H3 E) [.Assign [.Attribute (.Name "self" p6) fl p7] (.Name fl p8) p9] _ :=
    pss_one (ps_ost (f := fl) (pe_var (i := 0) rfl (.inl lkS)) (pe_var (i := 1) rfl (.inl lkF) nd nc))
  refine PySem.ks_wpAt_mono (wpAt_of_wpAny (pS.run _ s4 _ H3 { nx := fun _ H' => Q .non H', rt := Q } I4 ?_)) (fun fw s' hs => ?_) (fun e s' h => h)
  · exact ⟨y, rfl, .ref a, rfl, a, C, rfl, T.ox, T.noF, .inl ⟨ha, fun dx h1 h2 => hq dx h1 h2⟩⟩
  · have fin : ∀ {pn : List (Addr × Obj)} {σ' : L2.St} {H' : Hp} {v : V} {u : Value}, L2.Inv (cxE P w K mg base CXq fl qual f (.ref ca) cc A outer s H3 E) pn σ' H' s' → RelV v u → Q v H' → CE outer P w H3 s Q u s' :=
      fun {pn σ' H' v u} J rv q => ⟨v, H', J.os, J.bare, J.base, J.hok, rv, q⟩
    cases fw with
    | ret u =>
      obtain ⟨v, σ', H', J, rv, q⟩ := hs
      exact fin J rv q
    | next =>
      obtain ⟨σ', H', J, q⟩ := hs
      exact fin (v := V.non) (u := Value.none) J rfl q
    | brk =>
      obtain ⟨_, _, _, q⟩ := hs
      exact False.elim q
    | cont =>
      obtain ⟨_, _, _, q⟩ := hs
      exact False.elim q
end
end Sx

set_option Elab.async false
set_option linter.all false
set_option maxRecDepth 100000
set_option maxHeartbeats 1000000
/-! data in place of heaps: what an expression, a statement, a def does to a list of data -/
namespace Dn
open PySem PySem.Spec PyProof.Rows L2

/-- what is true of a thing that nobody changes -/
structure Mon where
  f : PySem.W.Frag → Hp → V → Prop
  mono : ∀ {K : PySem.W.Frag} {B B' : Hp} {v : V}, Same B B' → f K B v → f K B' v
inductive Dq where
  | d (x : PyData)
  | m (M : Mon)
/-- what is true of a thing of ours -/
structure Obn where
  f : PySem.W.Frag → Hp → HO → Prop
  mono : ∀ {K : PySem.W.Frag} {B B' : Hp} {o : HO}, Same B B' → f K B o → f K B' o
  nx : ∀ {K : PySem.W.Frag} {B : Hp} {o : HO}, f K B o → ∀ g, o ≠ .ext g
inductive Dt where
  | da (x : Dq)
  | li (xs : List PyData)
  | ob (O : Obn)
abbrev Rho := List (Option Dt)
abbrev dd (x : PyData) : Option Dt := some (.da (.d x))
abbrev mm (M : Mon) : Option Dt := some (.da (.m M))
instance : Coe PyData Dq := ⟨Dq.d⟩
abbrev oo (xs : List PyData) : Option Dt := some (.li xs)
abbrev oj (O : Obn) : Option Dt := some (.ob O)

section
variable {K : PySem.W.Frag} {H H' B B' : Hp} {v : V} {x : PyData}
theorem same_t {a : Addr} {xs : List V} (e : Same H H') (h : SqT K H a xs) : SqT K H' a xs := by
  rcases h with (h | ⟨o, h⟩) | h
  · exact .inl (.inl (e _ _ h))
  · exact .inl (.inr ⟨o, e _ _ h⟩)
  · exact .inr h
mutual
theorem dp_mono (e : Same H H') : ∀ {v : V} {x : PyData}, Dp K H v x → Dp K H' v x
  | _, _, .non => .non
  | _, _, .bl b => .bl b
  | _, _, .int i => .int i
  | _, _, .str z => .str z
  | _, _, .lst h r => .lst (e.seq h) (dpa_mono e r)
  | _, _, .tup h r => .tup (same_t e h) (dpa_mono e r)
theorem dpa_mono (e : Same H H') : ∀ {vs : List V} {xs : List PyData}, DpAll K H vs xs → DpAll K H' vs xs
  | _, _, .nil => .nil
  | _, _, .cons h r => .cons (dp_mono e h) (dpa_mono e r)
end
theorem dpa_len : ∀ {vs : List V} {xs : List PyData}, DpAll K H vs xs → vs.length = xs.length
  | _, _, .nil => rfl
  | _, _, .cons _ r => congrArg (· + 1) (dpa_len r)
theorem dpa_get : ∀ {vs : List V} {xs : List PyData} {i : Nat} {x : PyData}, DpAll K H vs xs → xs[i]? = some x → ∃ v, vs[i]? = some v ∧ Dp K H v x
  | _, _, i, _, .nil, h => by simp at h
  | _, _, 0, _, .cons h _, e => by
    simp at e
    subst e
    exact ⟨_, rfl, h⟩
  | _, _, i + 1, _, .cons _ r, e => by
    obtain ⟨v, h1, h2⟩ := dpa_get (i := i) r (by simpa using e)
    exact ⟨v, by simpa using h1, h2⟩
theorem dpa_get' : ∀ {vs : List V} {xs : List PyData} {i : Nat} {v : V}, DpAll K H vs xs → vs[i]? = some v → ∃ x, xs[i]? = some x ∧ Dp K H v x
  | _, _, i, _, .nil, h => by simp at h
  | _, _, 0, _, .cons h _, e => by
    simp at e
    subst e
    exact ⟨_, rfl, h⟩
  | _, _, i + 1, _, .cons _ r, e => by
    obtain ⟨v, h1, h2⟩ := dpa_get' (i := i) r (by simpa using e)
    exact ⟨v, by simpa using h1, h2⟩
theorem dpa_app : ∀ {vs ws : List V} {xs ys : List PyData}, DpAll K H vs xs → DpAll K H ws ys → DpAll K H (vs ++ ws) (xs ++ ys)
  | _, _, _, _, .nil, s => s
  | _, _, _, _, .cons h r, s => .cons h (dpa_app r s)
theorem dpa_take : ∀ {vs : List V} {xs : List PyData} (n : Nat), DpAll K H vs xs → DpAll K H (vs.take n) (xs.take n)
  | _, _, 0, _ => .nil
  | _, _, _ + 1, .nil => .nil
  | _, _, n + 1, .cons h r => .cons h (dpa_take n r)
theorem dpa_drop : ∀ {vs : List V} {xs : List PyData} (n : Nat), DpAll K H vs xs → DpAll K H (vs.drop n) (xs.drop n)
  | _, _, 0, r => r
  | _, _, _ + 1, .nil => .nil
  | _, _, n + 1, .cons _ r => dpa_drop n r
theorem dpa_set : ∀ {vs : List V} {xs : List PyData} {v : V} {x : PyData} (i : Nat), DpAll K H vs xs → Dp K H v x → DpAll K H (vs.set i v) (xs.set i x)
  | _, _, _, _, _, .nil, _ => .nil
  | _, _, _, _, 0, .cons _ r, h => .cons h r
  | _, _, _, _, i + 1, .cons q r, h => .cons q (dpa_set i r h)
theorem dp_int {i : Int} (h : Dp K H v (.int i)) : v = .int i := by cases h; rfl
theorem dp_bool {b : Bool} (h : Dp K H v (.bool b)) : v = .bl b := by cases h; rfl
theorem dp_str {z : Str} (h : Dp K H v (.str z)) : v = .str z := by cases h; rfl
theorem dp_none (h : Dp K H v .none) : v = .non := by cases h; rfl
theorem dp_list {xs : List PyData} (h : Dp K H v (.list xs)) : ∃ a vs, v = .ref a ∧ SqL K H a vs ∧ DpAll K H vs xs := by
  cases h with
  | lst a r => exact ⟨_, _, rfl, a, r⟩
theorem dp_tup {xs : List PyData} (h : Dp K H v (.tuple xs)) : ∃ a vs, v = .ref a ∧ SqT K H a vs ∧ DpAll K H vs xs := by
  cases h with
  | tup a r => exact ⟨_, _, rfl, a, r⟩
theorem dpa_ints : ∀ {vs : List V} {ns : List Int}, DpAll K H vs (ns.map .int) → vs = ns.map .int
  | _, [], .nil => rfl
  | _, n :: ns, .cons h r => by rw [dp_int h, dpa_ints r]; rfl
theorem dpa_of_ints : ∀ ns : List Int, DpAll K H (ns.map .int) (ns.map .int)
  | [] => .nil
  | n :: ns => .cons (.int n) (dpa_of_ints ns)
theorem dpa_bools : ∀ {vs : List V} {bs : List Bool}, DpAll K H vs (bs.map .bool) → vs = bs.map .bl
  | _, [], .nil => rfl
  | _, n :: ns, .cons h r => by rw [dp_bool h, dpa_bools r]; rfl
end

/-! ### the relation and the step -/
def Live (H : Hp) (a : Addr) : Prop := ∃ o, H a = some o ∧ ∀ ps, o ≠ .tbl ps
def DpQ (K : PySem.W.Frag) (B : Hp) (v : V) : Dq → Prop
  | .d x => Dp K B v x
  | .m M => M.f K B v
theorem dq_mono {K : PySem.W.Frag} {B B' : Hp} (e : Same B B') : ∀ {v : V} {x : Dq}, DpQ K B v x → DpQ K B' v x
  | _, .d _, h => dp_mono e h
  | _, .m M, h => M.mono e h

/-- B: what is settled, w: who owns a list; H: the heap; σ, ρ: slots and what they hold -/
structure Rl (K : PySem.W.Frag) (T : List (Addr × Str)) (φ : Nat → Option V) (B : Hp) (w : Addr → Option Nat) (H : Hp) (σ : L2.St) (ρ : Rho) : Prop where
  ext : Same B H
  len : ρ.length = σ.length
  wok : ∀ a, w a ≠ none → Live H a
  tabs : LamX.Tabs T H
  nt : ∀ a ps, B a ≠ some (.tbl ps)
  fix : ∀ (i : Nat) (v : V), φ i = some v → σ[i]? = some (some v)
  dat : ∀ (i : Nat) (x : Dq), ρ[i]? = some (some (.da x)) → ∃ v, σ[i]? = some (some v) ∧ DpQ K B v x
  own : ∀ (i : Nat) (xs : List PyData), ρ[i]? = some (oo xs) → ∃ l vs, σ[i]? = some (some (.ref l)) ∧ w l = some i ∧ B l = none ∧ H l = some (.lst vs) ∧ DpAll K B vs xs
  obj : ∀ (i : Nat) (O : Obn), ρ[i]? = some (oj O) → ∃ l o, σ[i]? = some (some (.ref l)) ∧ w l = some i ∧ B l = none ∧ H l = some o ∧ O.f K B o


/-- lists and data alone -/
def noOb : Rho → Bool
  | [] => true
  | some (.ob _) :: _ => false
  | _ :: l => noOb l
theorem noOb_at : ∀ {ρ : Rho} {k : Nat} {O : Obn}, noOb ρ = true → ρ[k]? = some (oj O) → False
  | [], k, O, _, h => by simp at h
  | some (.ob _) :: _, _, _, h, _ => by cases h
  | none :: l, 0, O, _, h => by cases h
  | none :: l, k + 1, O, h, e => noOb_at (ρ := l) (k := k) h e
  | some (.da _) :: l, 0, O, _, h => by cases h
  | some (.da _) :: l, k + 1, O, h, e => noOb_at (ρ := l) (k := k) h e
  | some (.li _) :: l, 0, O, _, h => by cases h
  | some (.li _) :: l, k + 1, O, h, e => noOb_at (ρ := l) (k := k) h e

/-- from (w, B, H) to (w', B', H') -/
structure Stp (T : List (Addr × Str)) (w : Addr → Option Nat) (B H : Hp) (w' : Addr → Option Nat) (B' H' : Hp) : Prop where
  bb : Same B B'
  hh : ∀ a o, H a = some o → w a = none → (∀ ps, o ≠ .tbl ps) → H' a = some o
  th : ∀ a, Live H a → Live H' a
  nb : ∀ a, Live H a → B a = none → w a = none → B' a = none
  tb : LamX.Tabs T H → LamX.Tabs T H'
  nt : (∀ a ps, B a ≠ some (.tbl ps)) → ∀ a ps, B' a ≠ some (.tbl ps)
  ww : ∀ a, w' a ≠ none → w a ≠ none ∨ ¬ Live H a
theorem Rl.objx {K : PySem.W.Frag} {T : List (Addr × Str)} {φ : Nat → Option V} {w : Addr → Option Nat} {B H : Hp} {σ : L2.St} {ρ : Rho} {i : Nat} {O : Obn} (F : Rl K T φ B w H σ ρ) (h : ρ[i]? = some (oj O)) : ∃ l o, σ[i]? = some (some (.ref l)) ∧ w l = some i ∧ B l = none ∧ H l = some o ∧ O.f K B o ∧ Live H l ∧ ∀ ps, o ≠ .tbl ps := by
  obtain ⟨l, o, h1, h2, h3, h4, h5⟩ := F.obj i O h
  have lv := F.wok l (by rw [h2]; exact fun z => by cases z)
  refine ⟨l, o, h1, h2, h3, h4, h5, lv, fun ps z => ?_⟩
  obtain ⟨o', e, n⟩ := lv
  rw [h4] at e
  exact n ps ((Option.some.inj e).symm.trans z)
theorem live_lst {H : Hp} {a : Addr} {us : List V} (h : H a = some (.lst us)) : Live H a := ⟨_, h, fun ps z => by cases z⟩
theorem not_live {H : Hp} {a : Addr} (h : H a = none) : ¬ Live H a := fun ⟨o, e, _⟩ => by
  rw [h] at e
  cases e
section
variable {K : PySem.W.Frag} {T : List (Addr × Str)} {w w1 w2 : Addr → Option Nat} {B B1 B2 H H1 H2 : Hp} {σ : L2.St} {ρ : Rho}
theorem Stp.refl : Stp T w B H w B H := ⟨fun _ _ h => h, fun _ _ h _ _ => h, fun _ h => h, fun _ _ h _ => h, fun t => t, fun t => t, fun _ h => .inl h⟩
theorem Stp.keepW (s : Stp T w B H w1 B1 H1) {a : Addr} (h : Live H a) (hw : w a = none) : w1 a = none := by
  cases q : w1 a with
  | none => rfl
  | some i =>
    rcases s.ww a (by rw [q]; simp) with z | z
    · exact absurd hw z
    · exact absurd h z
theorem Stp.trans (s : Stp T w B H w1 B1 H1) (t : Stp T w1 B1 H1 w2 B2 H2) : Stp T w B H w2 B2 H2 where
  bb := s.bb.trans t.bb
  hh := fun a o h hw ho => t.hh a o (s.hh a o h hw ho) (s.keepW ⟨o, h, ho⟩ hw) ho
  th := fun a h => t.th a (s.th a h)
  nb := fun a h hb hw => t.nb a (s.th a h) (s.nb a h hb hw) (s.keepW h hw)
  tb := fun x => t.tb (s.tb x)
  nt := fun x => t.nt (s.nt x)
  ww := fun a h => by
    rcases t.ww a h with z | z
    · exact s.ww a z
    · exact .inr fun l => z (s.th a l)
end
/-- what an expression hands back: data, a new list, the list of a slot -/
inductive Rs where
  | da (x : PyData)
  | li (xs : List PyData)
  | sl (i : Nat)
/-- H0: the heap at the start -/
def ItV (K : PySem.W.Frag) (B : Hp) (w : Addr → Option Nat) (H H0 : Hp) (σ : L2.St) (v : V) : Rs → Prop
  | .da x => Dp K B v x
  | .li xs => ∃ l vs, v = .ref l ∧ ¬ Live H0 l ∧ w l = none ∧ B l = none ∧ H l = some (.lst vs) ∧ DpAll K B vs xs
  | .sl i => σ[i]? = some (some v)
/-- the def's fixed things: tables, slots that stay -/
structure Pm where
  T : List (Addr × Str)
  φ : Nat → Option V
section
variable {K : PySem.W.Frag} {T : List (Addr × Str)} {φ : Nat → Option V} {w w1 w2 : Addr → Option Nat} {B B1 B2 H H0 H1 H2 : Hp} {σ : L2.St} {ρ : Rho} {v : V} {r : Rs}
theorem ItV.step (h : ItV K B w H H0 σ v r) (s : Stp T w B H w1 B1 H1) : ItV K B1 w1 H1 H0 σ v r := by
  cases r with
  | da x => exact dp_mono s.bb h
  | li xs =>
    obtain ⟨l, vs, e, h0, hw, hb, hl, hd⟩ := h
    exact ⟨l, vs, e, h0, s.keepW (live_lst hl) hw, s.nb l (live_lst hl) hb hw, s.hh l _ hl hw (fun ps z => by cases z), dpa_mono s.bb hd⟩
  | sl i => exact h
theorem ItV.back (h : ItV K B w H H1 σ v r) (s : Stp T w1 B1 H0 w2 B2 H1) : ItV K B w H H0 σ v r := by
  cases r with
  | da x => exact h
  | li xs =>
    obtain ⟨l, vs, e, h0, q⟩ := h
    exact ⟨l, vs, e, fun z => h0 (s.th l z), q⟩
  | sl i => exact h
end

/-! ### expressions -/
def EvS (K : PySem.W.Frag) (p : Pm) (t : TE) (ρ : Rho) (r : Rs) (ρ' : Rho) : Prop :=
  ∀ σ H B w, Rl K p.T p.φ B w H σ ρ → ∀ Q : VK, (∀ v H' B' w', Stp p.T w B H w' B' H' → Rl K p.T p.φ B' w' H' σ ρ' → ItV K B' w' H' H σ v r → Q v H') → t σ H Q
def RV (X : Cx) (p : Pm) (e : Expr) (ρ : Rho) (r : Rs) (ρ' : Rho) : Prop := ∃ t, PE X e t ∧ EvS X.K p t ρ r ρ'
/-- lists of arguments -/
def ItVs (K : PySem.W.Frag) (B : Hp) (w : Addr → Option Nat) (H H0 : Hp) (σ : L2.St) : List V → List Rs → Prop := Paired (ItV K B w H H0 σ)
def EvA (K : PySem.W.Frag) (p : Pm) (t : TA) (ρ : Rho) (rs : List Rs) (ρ' : Rho) : Prop :=
  ∀ σ H B w, Rl K p.T p.φ B w H σ ρ → ∀ Q : List V → Hp → Prop, (∀ vs H' B' w', Stp p.T w B H w' B' H' → Rl K p.T p.φ B' w' H' σ ρ' → ItVs K B' w' H' H σ vs rs → Q vs H') → t σ H Q
def RA (X : Cx) (p : Pm) (es : List Expr) (ρ : Rho) (rs : List Rs) (ρ' : Rho) : Prop := ∃ t, PA X es t ∧ EvA X.K p t ρ rs ρ'
/-- tests -/
def EvT (K : PySem.W.Frag) (p : Pm) (t : TT) (ρ : Rho) (b : Bool) (ρ' : Rho) : Prop :=
  ∀ σ H B w, Rl K p.T p.φ B w H σ ρ → ∀ Q : Bool → Hp → Prop, (∀ H' B' w', Stp p.T w B H w' B' H' → Rl K p.T p.φ B' w' H' σ ρ' → Q b H') → t σ H Q
def RT (X : Cx) (p : Pm) (e : Expr) (ρ : Rho) (b : Bool) (ρ' : Rho) : Prop := ∃ t, PT X e t ∧ EvT X.K p t ρ b ρ'
def RW (X : Cx) (p : Pm) (e : Expr) (ρ : Rho) (b : Bool) (ρ' : Rho) : Prop := ∃ t, PW X e t ∧ EvT X.K p t ρ b ρ'
/-- operations by values -/
def OpV (X : Cx) (p : Pm) (f : Value → Value → Sem Value) (ra rb : Rs) (ρ : Rho) (r : Rs) : Prop :=
  ∃ q : R2, OpR X f q ∧ ∀ σ H B w x y H0, Rl X.K p.T p.φ B w H σ ρ → Same B H → ItV X.K B w H H0 σ x ra → ItV X.K B w H H0 σ y rb → ∀ Q : VK, (∀ v H' B' w', Stp p.T w B H w' B' H' → Rl X.K p.T p.φ B' w' H' σ ρ → ItV X.K B' w' H' H σ v r → Q v H') → q x y H Q
section
variable {X : Cx} {p : Pm} {ρ ρ1 ρ2 ρ3 : Rho} {a b c : Expr} {ra rb rc r : Rs} {pos pos' : Pos}
theorem evs_bin {q : R2} {ta tb : TE} (ha : EvS X.K p ta ρ ra ρ1) (hb : EvS X.K p tb ρ1 rb ρ2)
    (hq : ∀ σ H B w x y H0, Rl X.K p.T p.φ B w H σ ρ2 → Same B H → ItV X.K B w H H0 σ x ra → ItV X.K B w H H0 σ y rb → ∀ Q : VK, (∀ v H' B' w', Stp p.T w B H w' B' H' → Rl X.K p.T p.φ B' w' H' σ ρ2 → ItV X.K B' w' H' H σ v r → Q v H') → q x y H Q) :
    EvS X.K p (tOp q ta tb) ρ r ρ2 := fun σ H B w F Q k =>
  ha σ H B w F _ fun x H1 B1 w1 s1 F1 i1 => hb σ H1 B1 w1 F1 _ fun y H2 B2 w2 s2 F2 i2 =>
    hq σ H2 B2 w2 x y H F2 F2.ext (i1.step s2) (i2.back s1) Q fun v H3 B3 w3 s3 F3 i3 => k v H3 B3 w3 ((s1.trans s2).trans s3) F3 (i3.back (s1.trans s2))
theorem rv_bin {op : Operator} (ha : RV X p a ρ ra ρ1) (hb : RV X p b ρ1 rb ρ2) (ho : OpV X p (binaryOp op) ra rb ρ2 r) : RV X p (.BinOp a op b pos) ρ r ρ2 := by
  obtain ⟨ta, pa, ea⟩ := ha
  obtain ⟨tb, pb, eb⟩ := hb
  obtain ⟨q, oq, hq⟩ := ho
  exact ⟨_, pe_op oq pa pb, evs_bin ea eb hq⟩
theorem rv_cmp {op : CmpOp} (ha : RV X p a ρ ra ρ1) (hb : RV X p b ρ1 rb ρ2) (ho : OpV X p (compareOp op) ra rb ρ2 r) (hm : behindInMarks op b = false := by first | exact nomark _ | rfl) : RV X p (.Compare a [op] [b] pos) ρ r ρ2 := by
  obtain ⟨ta, pa, ea⟩ := ha
  obtain ⟨tb, pb, eb⟩ := hb
  obtain ⟨q, oq, hq⟩ := ho
  exact ⟨_, pe_cmpR oq pa pb hm, evs_bin ea eb hq⟩
theorem rv_ix (ha : RV X p a ρ ra ρ1) (hb : RV X p b ρ1 rb ρ2) (ho : ∃ q : R2, IxR X q ∧ ∀ σ H B w x y H0, Rl X.K p.T p.φ B w H σ ρ2 → Same B H → ItV X.K B w H H0 σ x ra → ItV X.K B w H H0 σ y rb → ∀ Q : VK, (∀ v H' B' w', Stp p.T w B H w' B' H' → Rl X.K p.T p.φ B' w' H' σ ρ2 → ItV X.K B' w' H' H σ v r → Q v H') → q x y H Q)
    (hs : PlainIx b := by exact fun _ _ => rfl) : RV X p (.Subscript a b pos) ρ r ρ2 := by
  obtain ⟨ta, pa, ea⟩ := ha
  obtain ⟨tb, pb, eb⟩ := hb
  obtain ⟨q, oq, hq⟩ := ho
  exact ⟨_, pe_ix oq pa pb hs, evs_bin ea eb hq⟩
end
end Dn

set_option Elab.async false
set_option linter.all false
set_option maxRecDepth 100000
set_option maxHeartbeats 1000000
namespace Dn
open PySem PySem.Spec PyProof.Rows L2

section
variable {X : Cx} {p : Pm} {ρ ρ1 ρ2 ρ3 : Rho} {a b c e : Expr} {es : List Expr} {ra rb rc r : Rs} {rs : List Rs} {pos pos' : Pos}
variable {K : PySem.W.Frag} {φ : Nat → Option V} {w : Addr → Option Nat} {B H H0 : Hp} {σ : L2.St} {x y v : V}

/-! ### names, constants -/
theorem evs_now {t : TE} (h : ∀ σ H B w, Rl K p.T p.φ B w H σ ρ → ∃ v, ItV K B w H H σ v r ∧ ∀ Q : VK, Q v H → t σ H Q) : EvS K p t ρ r ρ := fun σ H B w F Q k =>
  let ⟨v, i, g⟩ := h σ H B w F
  g Q (k v H B w Stp.refl F i)
theorem rv_name (i : Nat) {n : Str} {x : PyData} (hρ : ρ[i]? = some (dd x) := by rfl) (hN : X.N[i]? = some n := by rfl) (hv : Vis X.env.scope n := by first | exact Or.inl rfl | exact Or.inr (Or.inl rfl) | exact Or.inr (Or.inr rfl))
    (hd : (n == ("__debug__" : Str)) = false := by decide) (hcd : (n == ("__classdict__" : Str)) = false := by decide) : RV X p (.Name n pos) ρ (.da x) ρ :=
  ⟨tVar i, pe_var hN hv hd hcd, evs_now fun σ H B w F => by
    obtain ⟨v, h1, h2⟩ := F.dat i x hρ
    exact ⟨v, h2, fun Q q => ⟨v, h1, q⟩⟩⟩
theorem rv_slot (i : Nat) {n : Str} {xs : List PyData} (hρ : ρ[i]? = some (oo xs) := by rfl) (hN : X.N[i]? = some n := by rfl) (hv : Vis X.env.scope n := by first | exact Or.inl rfl | exact Or.inr (Or.inl rfl) | exact Or.inr (Or.inr rfl))
    (hd : (n == ("__debug__" : Str)) = false := by decide) (hcd : (n == ("__classdict__" : Str)) = false := by decide) : RV X p (.Name n pos) ρ (.sl i) ρ :=
  ⟨tVar i, pe_var hN hv hd hcd, evs_now fun σ H B w F => by
    obtain ⟨l, vs, h1, _⟩ := F.own i xs hρ
    exact ⟨.ref l, h1, fun Q q => ⟨.ref l, h1, q⟩⟩⟩
theorem evs_c {v : V} {x : PyData} (h : ∀ B, Dp K B v x) : EvS K p (tC v) ρ (.da x) ρ := evs_now fun σ H B w F => ⟨v, h B, fun Q q => q⟩
theorem rv_int {i : Int} {j} : RV X p (.Constant (.int i) j pos) ρ (.da (.int i)) ρ := ⟨_, pe_int, evs_c fun _ => .int i⟩
theorem rv_bl {i : Bool} {j} : RV X p (.Constant (.bool i) j pos) ρ (.da (.bool i)) ρ := ⟨_, pe_bl, evs_c fun _ => .bl i⟩
theorem rv_non {j} : RV X p (.Constant .none j pos) ρ (.da .none) ρ := ⟨_, pe_non, evs_c fun _ => .non⟩
theorem rv_str {z : Str} {j} : RV X p (.Constant (.str z) j pos) ρ (.da (.str z)) ρ := ⟨_, pe_str, evs_c fun _ => .str z⟩
/-- a number of the module -/
theorem rv_gint {n : Str} {i : Int} (h : ∃ t, X.mg n = some (.int i t)) (hg : Gl X n := by rfl) (hd : (n == ("__debug__" : Str)) = false := by decide) : RV X p (.Name n pos) ρ (.da (.int i)) ρ :=
  let ⟨_, hm⟩ := h
  ⟨_, pe_glob (v := .int i) hg hm ⟨_, rfl⟩ hd, evs_c fun _ => .int i⟩

/-! ### operations by values -/
/-- from a reading that leaves the heap alone -/
theorem opv_now {f : Value → Value → Sem Value} {q : R2} {z : PyData} (o : OpR X f q)
    (h : ∀ σ H B w x y H0, Rl X.K p.T p.φ B w H σ ρ → Same B H → ItV X.K B w H H0 σ x ra → ItV X.K B w H H0 σ y rb → ∃ v, Dp X.K B v z ∧ ∀ Q : VK, Q v H → q x y H Q) : OpV X p f ra rb ρ (.da z) :=
  ⟨q, o, fun σ H B w x y H0 F s ia ib Q k =>
    let ⟨v, d, g⟩ := h σ H B w x y H0 F s ia ib
    g Q (k v H B w Stp.refl F d)⟩
theorem opv_i0 {f : Value → Value → Sem Value} {g : Int → Int → V} {z : PyData} {i j : Int} (o : OpR X f (rI0 g)) (hz : ∀ B, Dp X.K B (g i j) z) : OpV X p f (.da (.int i)) (.da (.int j)) ρ (.da z) :=
  opv_now o fun σ H B w x y H0 F s ia ib => ⟨g i j, hz B, fun Q q => ⟨i, j, dp_int ia, dp_int ib, q⟩⟩
theorem opv_i {f : Value → Value → Sem Value} {C : Int → Int → Prop} {g : Int → Int → V} {z : PyData} {i j : Int} (o : OpR X f (rI C g)) (hc : C i j) (hz : ∀ B, Dp X.K B (g i j) z) : OpV X p f (.da (.int i)) (.da (.int j)) ρ (.da z) :=
  opv_now o fun σ H B w x y H0 F s ia ib => ⟨g i j, hz B, fun Q q => ⟨i, j, dp_int ia, dp_int ib, hc, q⟩⟩
theorem ov_add {i j : Int} : OpV X p (binaryOp .Add) (.da (.int i)) (.da (.int j)) ρ (.da (.int (i + j))) := opv_i0 op_add fun _ => .int _
theorem ov_sub {i j : Int} : OpV X p (binaryOp .Sub) (.da (.int i)) (.da (.int j)) ρ (.da (.int (i - j))) := opv_i0 op_sub fun _ => .int _
theorem ov_mul {i j : Int} (h : CMul i j) : OpV X p (binaryOp .Mult) (.da (.int i)) (.da (.int j)) ρ (.da (.int (i * j))) := opv_i op_mul h fun _ => .int _
theorem ov_mulW {i j : Int} (h : CMulW i j) : OpV X p (binaryOp .Mult) (.da (.int i)) (.da (.int j)) ρ (.da (.int (i * j))) := opv_i op_mulW h fun _ => .int _
theorem ov_fdiv {i j : Int} (h : CDiv i j) : OpV X p (binaryOp .FloorDiv) (.da (.int i)) (.da (.int j)) ρ (.da (.int (i / j))) := opv_i op_fdiv h fun _ => .int _
theorem ov_fdivW {i j : Int} (h : CDivW i j) : OpV X p (binaryOp .FloorDiv) (.da (.int i)) (.da (.int j)) ρ (.da (.int (i / j))) := opv_i op_fdivW h fun _ => .int _
theorem ov_mod {i j : Int} (h : 0 < j) : OpV X p (binaryOp .Mod) (.da (.int i)) (.da (.int j)) ρ (.da (.int (i % j))) := opv_i op_mod h fun _ => .int _
theorem ov_pow {i j : Int} (h : CPow i j) : OpV X p (binaryOp .Pow) (.da (.int i)) (.da (.int j)) ρ (.da (.int (i ^ j.toNat))) := opv_i op_pow h fun _ => .int _
theorem ov_lt {i j : Int} : OpV X p (compareOp .Lt) (.da (.int i)) (.da (.int j)) ρ (.da (.bool (decide (i < j)))) := opv_i0 op_lt fun _ => .bl _
theorem ov_le {i j : Int} : OpV X p (compareOp .LtE) (.da (.int i)) (.da (.int j)) ρ (.da (.bool (decide (i ≤ j)))) := opv_i0 op_le fun _ => .bl _
theorem ov_gt {i j : Int} : OpV X p (compareOp .Gt) (.da (.int i)) (.da (.int j)) ρ (.da (.bool (decide (j < i)))) := opv_i0 op_gt fun _ => .bl _
theorem ov_ge {i j : Int} : OpV X p (compareOp .GtE) (.da (.int i)) (.da (.int j)) ρ (.da (.bool (decide (j ≤ i)))) := opv_i0 op_ge fun _ => .bl _
theorem ov_eqI {i j : Int} : OpV X p (compareOp .Eq) (.da (.int i)) (.da (.int j)) ρ (.da (.bool (decide (i = j)))) :=
  opv_now op_eq fun σ H B w x y H0 F s ia ib => ⟨.bl (decide (i = j)), .bl _, fun Q q => by
    rw [dp_int ia, dp_int ib]
    refine ⟨rfl, ?_⟩
    have e : decide (V.int i = V.int j) = decide (i = j) := by simp
    rw [e]
    exact q⟩
theorem ov_neI {i j : Int} : OpV X p (compareOp .NotEq) (.da (.int i)) (.da (.int j)) ρ (.da (.bool (!decide (i = j)))) :=
  opv_now op_ne fun σ H B w x y H0 F s ia ib => ⟨.bl (!decide (i = j)), .bl _, fun Q q => by
    rw [dp_int ia, dp_int ib]
    refine ⟨rfl, ?_⟩
    have e : decide (V.int i = V.int j) = decide (i = j) := by simp
    rw [e]
    exact q⟩
theorem ov_eqB {i j : Bool} : OpV X p (compareOp .Eq) (.da (.bool i)) (.da (.bool j)) ρ (.da (.bool (decide (i = j)))) :=
  opv_now op_eq fun σ H B w x y H0 F s ia ib => ⟨.bl (decide (i = j)), .bl _, fun Q q => by
    rw [dp_bool ia, dp_bool ib]
    refine ⟨rfl, ?_⟩
    have e : decide (V.bl i = V.bl j) = decide (i = j) := by simp
    rw [e]
    exact q⟩
theorem ov_neB {i j : Bool} : OpV X p (compareOp .NotEq) (.da (.bool i)) (.da (.bool j)) ρ (.da (.bool (!decide (i = j)))) :=
  opv_now op_ne fun σ H B w x y H0 F s ia ib => ⟨.bl (!decide (i = j)), .bl _, fun Q q => by
    rw [dp_bool ia, dp_bool ib]
    refine ⟨rfl, ?_⟩
    have e : decide (V.bl i = V.bl j) = decide (i = j) := by simp
    rw [e]
    exact q⟩
/-- is None -/
def isNone : PyData → Bool
  | .none => true
  | _ => false
theorem dp_isN {z : PyData} (h : Dp K H v z) : decide (v = .non) = isNone z := by cases h <;> rfl
theorem ov_isN {z : PyData} : OpV X p (compareOp .Is) (.da z) (.da .none) ρ (.da (.bool (isNone z))) :=
  opv_now op_isN fun σ H B w x y H0 F s ia ib => ⟨.bl (isNone z), .bl _, fun Q q => ⟨dp_none ib, by rw [dp_isN (show Dp X.K B x z from ia)]; exact q⟩⟩
theorem ov_notN {z : PyData} : OpV X p (compareOp .IsNot) (.da z) (.da .none) ρ (.da (.bool (!isNone z))) :=
  opv_now op_notN fun σ H B w x y H0 F s ia ib => ⟨.bl (!isNone z), .bl _, fun Q q => ⟨dp_none ib, by rw [dp_isN (show Dp X.K B x z from ia)]; exact q⟩⟩
theorem ov_isB {i j : Bool} : OpV X p (compareOp .Is) (.da (.bool i)) (.da (.bool j)) ρ (.da (.bool (decide (i = j)))) :=
  opv_now op_isBl fun σ H B w x y H0 F s ia ib => ⟨.bl (decide (i = j)), .bl _, fun Q q => ⟨i, j, dp_bool ia, dp_bool ib, q⟩⟩
theorem ov_notB {i j : Bool} : OpV X p (compareOp .IsNot) (.da (.bool i)) (.da (.bool j)) ρ (.da (.bool (!decide (i = j)))) :=
  opv_now op_notBl fun σ H B w x y H0 F s ia ib => ⟨.bl (!decide (i = j)), .bl _, fun Q q => ⟨i, j, dp_bool ia, dp_bool ib, q⟩⟩

/-! ### views -/
inductive Vw (ρ : Rho) : Rs → Bool → List PyData → Prop
  | dl {xs : List PyData} : Vw ρ (.da (.list xs)) false xs
  | dt {xs : List PyData} : Vw ρ (.da (.tuple xs)) true xs
  | li {xs : List PyData} : Vw ρ (.li xs) false xs
  | sl {i : Nat} {xs : List PyData} : ρ[i]? = some (oo xs) → Vw ρ (.sl i) false xs
def Sq (K : PySem.W.Frag) (H : Hp) (t : Bool) (a : Addr) (vs : List V) : Prop := if t = true then SqT K H a vs else SqL K H a vs
theorem Sq.any {t : Bool} {l : Addr} {vs : List V} (h : Sq K H t l vs) : SqL K H l vs ∨ SqT K H l vs := by
  cases t with
  | true => exact .inr h
  | false => exact .inl h
theorem vw_ok {t : Bool} {xs : List PyData} (F : Rl K T φ B w H σ ρ) (i : ItV K B w H H0 σ x r) (h : Vw ρ r t xs) : ∃ l vs, x = .ref l ∧ Sq K H t l vs ∧ DpAll K B vs xs := by
  cases h with
  | dl =>
    obtain ⟨l, vs, e, s, d⟩ := dp_list i
    exact ⟨l, vs, e, F.ext.seq s, d⟩
  | dt =>
    obtain ⟨l, vs, e, s, d⟩ := dp_tup i
    exact ⟨l, vs, e, same_t F.ext s, d⟩
  | li =>
    obtain ⟨l, vs, e, _, _, _, h, d⟩ := i
    exact ⟨l, vs, e, .inl (.inl h), d⟩
  | @sl j xs e =>
    obtain ⟨l, vs, h1, _, _, h4, d⟩ := F.own j xs e
    have i' : σ[j]? = some (some x) := i
    rw [h1] at i'
    obtain rfl : V.ref l = x := Option.some.inj (Option.some.inj i')
    exact ⟨l, vs, rfl, .inl (.inl h4), d⟩
/-- as data, in the heap as it stands -/
inductive Dv (ρ : Rho) : Rs → PyData → Prop
  | da {x : PyData} : Dv ρ (.da x) x
  | li {xs : List PyData} : Dv ρ (.li xs) (.list xs)
  | sl {i : Nat} {xs : List PyData} : ρ[i]? = some (oo xs) → Dv ρ (.sl i) (.list xs)
theorem dv_ok {z : PyData} (F : Rl K T φ B w H σ ρ) (i : ItV K B w H H0 σ x r) (h : Dv ρ r z) : Dp K H x z := by
  cases h with
  | da => exact dp_mono F.ext i
  | li =>
    obtain ⟨l, vs, e, s, d⟩ := vw_ok F i .li
    rw [e]
    exact .lst s (dpa_mono F.ext d)
  | sl e =>
    obtain ⟨l, vs, e, s, d⟩ := vw_ok F i (.sl e)
    rw [e]
    exact .lst s (dpa_mono F.ext d)
theorem ov_eqD {z u : PyData} (hu : X.A.units + 64 < cLine) (ha : Dv ρ ra z) (hb : Dv ρ rb u) (sz : SeqAt.shaped z = true) (su : SeqAt.shaped u = true) : OpV X p (compareOp .Eq) ra rb ρ (.da (.bool (PyData.eqv z u))) :=
  opv_now (op_eqD hu) fun σ H B w x y H0 F s ia ib => ⟨.bl _, .bl _, fun Q q => ⟨z, u, dv_ok F ia ha, dv_ok F ib hb, sz, su, q⟩⟩
theorem ov_neD {z u : PyData} (hu : X.A.units + 64 < cLine) (ha : Dv ρ ra z) (hb : Dv ρ rb u) (sz : SeqAt.shaped z = true) (su : SeqAt.shaped u = true) : OpV X p (compareOp .NotEq) ra rb ρ (.da (.bool (!PyData.eqv z u))) :=
  opv_now (op_neD hu) fun σ H B w x y H0 F s ia ib => ⟨.bl _, .bl _, fun Q q => ⟨z, u, dv_ok F ia ha, dv_ok F ib hb, sz, su, q⟩⟩
end
end Dn

set_option Elab.async false
set_option linter.all false
set_option maxRecDepth 100000
set_option maxHeartbeats 1000000
namespace Dn
open PySem PySem.Spec PyProof.Rows L2

section
variable {X : Cx} {p : Pm} {ρ ρ1 ρ2 ρ3 ρ4 : Rho} {a b c e : Expr} {es : List Expr} {ra rb rc r : Rs} {rs : List Rs} {pos pos' : Pos}
variable {K : PySem.W.Frag} {T : List (Addr × Str)} {φ : Nat → Option V} {w : Addr → Option Nat} {B H H0 : Hp} {σ : L2.St} {x y v : V} {vs : List V} {xs ys : List PyData} {q : Addr}

/-! ### new objects -/
theorem same_new {o : HO} (h : H q = none) : Same H (upd H q o) := fun a u e => by
  rw [upd_ne (ne_of_none e h)]
  exact e
theorem same_none (s : Same B H) (h : H q = none) : B q = none := by
  cases e : B q with
  | none => rfl
  | some o =>
    rw [s _ _ e] at h
    cases h
theorem w_none' (F : Rl K T φ B w H σ ρ) (h : ¬ Live H q) : w q = none := by
  cases e : w q with
  | none => rfl
  | some i => exact absurd (F.wok q (by rw [e]; simp)) h
theorem w_none (F : Rl K T φ B w H σ ρ) (h : H q = none) : w q = none := w_none' F (not_live h)
theorem live_new {o : HO} {a : Addr} (h : H q = none) (l : Live H a) : Live (upd H q o) a := by
  obtain ⟨u, e, n⟩ := l
  exact ⟨u, same_new h a u e, n⟩
/-- a settled thing is added to both -/
theorem new_both (F : Rl K T φ B w H σ ρ) (hp : H q = none) (o : HO) (ho : ∀ ps, o ≠ .tbl ps) : Stp T w B H w (upd B q o) (upd H q o) ∧ Rl K T φ (upd B q o) w (upd H q o) σ ρ := by
  have hB := same_none F.ext hp
  have hnt : (∀ a ps, B a ≠ some (.tbl ps)) → ∀ a ps, upd B q o a ≠ some (.tbl ps) := fun t a ps => by
    by_cases ha : a = q
    · rw [ha, upd_same]
      exact fun z => ho ps (Option.some.inj z)
    · rw [upd_ne ha]
      exact t a ps
  refine ⟨⟨same_new hB, fun a u e _ _ => same_new hp a u e, fun a l => live_new hp l, fun a l hb _ => ?_, fun t => t.ext (same_new hp), hnt, fun a h => .inl h⟩, ⟨fun a u e => ?_, F.len, fun a h => live_new hp (F.wok a h), F.tabs.ext (same_new hp), hnt F.nt, F.fix, fun i z h => ?_, fun i zs h => ?_, fun i O h => ?_⟩⟩
  · obtain ⟨u, e, _⟩ := l
    rw [upd_ne (ne_of_none e hp)]
    exact hb
  · by_cases ha : a = q
    · rw [ha, upd_same] at e ⊢
      exact e
    · rw [upd_ne ha] at e ⊢
      exact F.ext a u e
  · obtain ⟨v, h1, h2⟩ := F.dat i z h
    exact ⟨v, h1, dq_mono (same_new hB) h2⟩
  · obtain ⟨l, us, h1, h2, h3, h4, h5⟩ := F.own i zs h
    have hl := ne_of_none h4 hp
    exact ⟨l, us, h1, h2, by rw [upd_ne hl]; exact h3, by rw [upd_ne hl]; exact h4, dpa_mono (same_new hB) h5⟩
  · obtain ⟨l, us, h1, h2, h3, h4, h5⟩ := F.obj i O h
    have hl := ne_of_none h4 hp
    exact ⟨l, us, h1, h2, by rw [upd_ne hl]; exact h3, by rw [upd_ne hl]; exact h4, O.mono (same_new hB) h5⟩
theorem new_tup (F : Rl K T φ B w H σ ρ) (hp : H q = none) (d : DpAll K B vs xs) : Stp T w B H w (upd B q (.tup vs)) (upd H q (.tup vs)) ∧ Rl K T φ (upd B q (.tup vs)) w (upd H q (.tup vs)) σ ρ ∧ Dp K (upd B q (.tup vs)) (.ref q) (.tuple xs) :=
  let ⟨s, F'⟩ := new_both F hp (.tup vs) (fun ps z => by cases z)
  ⟨s, F', .tup (.inl (.inl upd_same)) (dpa_mono s.bb d)⟩
theorem new_lst (F : Rl K T φ B w H σ ρ) (hp : H q = none) (d : DpAll K B vs xs) : Stp T w B H w B (upd H q (.lst vs)) ∧ Rl K T φ B w (upd H q (.lst vs)) σ ρ ∧ ItV K B w (upd H q (.lst vs)) H σ (.ref q) (.li xs) := by
  refine ⟨⟨Same.refl B, fun a u e _ _ => same_new hp a u e, fun a l => live_new hp l, fun a l hb _ => hb, fun t => t.ext (same_new hp), fun t => t, fun a h => .inl h⟩, ⟨F.ext.trans (same_new hp), F.len, fun a h => live_new hp (F.wok a h), F.tabs.ext (same_new hp), F.nt, F.fix, F.dat, fun i zs h => ?_, fun i O h => ?_⟩, ⟨q, vs, rfl, not_live hp, w_none F hp, same_none F.ext hp, upd_same, d⟩⟩
  · obtain ⟨l, us, h1, h2, h3, h4, h5⟩ := F.own i zs h
    exact ⟨l, us, h1, h2, h3, same_new hp _ _ h4, h5⟩
  · obtain ⟨l, us, h1, h2, h3, h4, h5⟩ := F.obj i O h
    exact ⟨l, us, h1, h2, h3, same_new hp _ _ h4, h5⟩
/-- a new list is settled -/
theorem settle (F : Rl K T φ B w H σ ρ) (i : ItV K B w H H0 σ v (.li xs)) : ∃ B', Rl K T φ B' w H σ ρ ∧ Dp K B' v (.list xs) ∧ Same B B' ∧ (∀ a, Live H0 a → B' a = B a) := by
  obtain ⟨l, vs, rfl, h0, hw, hb, hl, d⟩ := i
  have sB : Same B (upd B l (.lst vs)) := same_new hb
  refine ⟨upd B l (.lst vs), ⟨fun a u e => ?_, F.len, F.wok, F.tabs, fun a ps z => ?_, F.fix, fun i z h => ?_, fun i zs h => ?_, fun i O h => ?_⟩, .lst (.inl (.inl upd_same)) (dpa_mono sB d), sB, fun a e => upd_ne fun z => h0 (z ▸ e)⟩
  · by_cases ha : a = l
    · rw [ha, upd_same] at e
      rw [ha, hl]
      exact e
    · rw [upd_ne ha] at e
      exact F.ext a u e
  · by_cases ha : a = l
    · rw [ha, upd_same] at z
      cases z
    · rw [upd_ne ha] at z
      exact F.nt a ps z
  · obtain ⟨v, h1, h2⟩ := F.dat i z h
    exact ⟨v, h1, dq_mono sB h2⟩
  · obtain ⟨l', us, h1, h2, h3, h4, h5⟩ := F.own i zs h
    have hne : l' ≠ l := fun z => by
      rw [z, hw] at h2
      cases h2
    exact ⟨l', us, h1, h2, by rw [upd_ne hne]; exact h3, h4, dpa_mono sB h5⟩
  · obtain ⟨l', us, h1, h2, h3, h4, h5⟩ := F.obj i O h
    have hne : l' ≠ l := fun z => by
      rw [z, hw] at h2
      cases h2
    exact ⟨l', us, h1, h2, by rw [upd_ne hne]; exact h3, h4, O.mono sB h5⟩
theorem rv_settle (h : RV X p e ρ (.li xs) ρ1) : RV X p e ρ (.da (.list xs)) ρ1 := by
  obtain ⟨t, pt, et⟩ := h
  refine ⟨t, pt, fun σ H B w F Q k => et σ H B w F Q fun v H' B' w' s F' i => ?_⟩
  obtain ⟨B2, F2, d, s2, e2⟩ := settle F' i
  exact k v H' B2 w' ⟨s.bb.trans s2, s.hh, s.th, fun a h hb hw => (e2 a h).trans (s.nb a h hb hw), s.tb, fun _ => F2.nt, s.ww⟩ F2 d

/-! ### places and slices -/
theorem dpa_at {i : Int} {z : PyData} (d : DpAll K B vs xs) (h : atI xs i = some z) : ∃ v, atI vs i = some v ∧ Dp K B v z := by
  unfold atI at h ⊢
  rw [dpa_len d]
  cases e : ixN xs.length i with
  | none =>
    rw [e] at h
    cases h
  | some j =>
    rw [e] at h
    exact dpa_get d h
theorem rv_at {t : Bool} {i : Int} {z : PyData} (ha : RV X p a ρ ra ρ1) (hb : RV X p b ρ1 (.da (.int i)) ρ2) (hv : Vw ρ2 ra t xs) (hz : atI xs i = some z) (hs : PlainIx b := by exact fun _ _ => rfl) : RV X p (.Subscript a b pos) ρ (.da z) ρ2 := by
  refine rv_ix ha hb ?_ hs
  cases t with
  | false =>
    refine ⟨_, ix_list, fun σ H B w x y H0 F s ia ib Q k => ?_⟩
    obtain ⟨l, vs, e, sq, d⟩ := vw_ok F ia hv
    obtain ⟨v, h1, h2⟩ := dpa_at d hz
    exact ⟨l, vs, i, v, e, dp_int ib, sq, h1, k v H B w Stp.refl F h2⟩
  | true =>
    refine ⟨_, ix_tup, fun σ H B w x y H0 F s ia ib Q k => ?_⟩
    obtain ⟨l, vs, e, sq, d⟩ := vw_ok F ia hv
    obtain ⟨v, h1, h2⟩ := dpa_at d hz
    exact ⟨l, vs, i, v, e, dp_int ib, sq, h1, k v H B w Stp.refl F h2⟩
def cutA {α : Type} (xs : List α) (lo hi : Option Int) : List α := (xs.drop (HT.sIx xs.length 0 lo)).take (HT.sIx xs.length xs.length hi - HT.sIx xs.length 0 lo)
theorem dpa_cut (lo hi : Option Int) (d : DpAll K B vs xs) : DpAll K B (cutV vs lo hi) (cutA xs lo hi) := by
  unfold cutV cutA
  rw [dpa_len d]
  exact dpa_take _ (dpa_drop _ d)
/-- a part of a slice -/
def RO (X : Cx) (p : Pm) (e : Option Expr) (ρ : Rho) (o : Option Int) : Prop := ∃ t, PO X e t ∧ ∀ σ H B w, Rl X.K p.T p.φ B w H σ ρ → ∀ Q : Option Int → Hp → Prop, (∀ H' B' w', Stp p.T w B H w' B' H' → Rl X.K p.T p.φ B' w' H' σ ρ → Q o H') → t σ H Q
theorem ro_none : RO X p none ρ none := ⟨_, po_none, fun σ H B w F Q k => k H B w Stp.refl F⟩
theorem ro_some {i : Int} (h : RV X p e ρ (.da (.int i)) ρ) : RO X p (some e) ρ (some i) := by
  obtain ⟨t, pt, et⟩ := h
  exact ⟨_, po_some pt, fun σ H B w F Q k => et σ H B w F _ fun v H' B' w' s F' d => ⟨i, dp_int d, k H' B' w' s F'⟩⟩
theorem rv_cutL {lo hi : Option Expr} {l u : Option Int} {pos2 : Pos} (ha : RV X p a ρ ra ρ1) (hl : RO X p lo ρ1 l) (hh : RO X p hi ρ1 u) (hv : Vw ρ1 ra false xs) : RV X p (.Subscript a (.Slice lo hi none pos2) pos) ρ (.li (cutA xs l u)) ρ1 := by
  obtain ⟨ta, pa, ea⟩ := ha
  obtain ⟨tl, pl, el⟩ := hl
  obtain ⟨th, ph, eh⟩ := hh
  refine ⟨_, pe_slice sl_list pa pl ph, fun σ H B w F Q k => ea σ H B w F _ fun x H1 B1 w1 s1 F1 i1 => el σ H1 B1 w1 F1 _ fun H2 B2 w2 s2 F2 => eh σ H2 B2 w2 F2 _ fun H3 B3 w3 s3 F3 => ?_⟩
  obtain ⟨l, vs, e, sq, d⟩ := vw_ok F3 ((i1.step s2).step s3) hv
  refine ⟨l, vs, e, sq, fun q hq => ?_⟩
  obtain ⟨s4, F4, i4⟩ := new_lst (T := p.T) F3 hq (dpa_cut _ _ d)
  exact k _ _ _ _ (((s1.trans s2).trans s3).trans s4) F4 (i4.back ((s1.trans s2).trans s3))
theorem rv_cutT {lo hi : Option Expr} {l u : Option Int} {pos2 : Pos} (ha : RV X p a ρ (.da (.tuple xs)) ρ1) (hl : RO X p lo ρ1 l) (hh : RO X p hi ρ1 u) : RV X p (.Subscript a (.Slice lo hi none pos2) pos) ρ (.da (.tuple (cutA xs l u))) ρ1 := by
  obtain ⟨ta, pa, ea⟩ := ha
  obtain ⟨tl, pl, el⟩ := hl
  obtain ⟨th, ph, eh⟩ := hh
  refine ⟨_, pe_slice sl_tupA pa pl ph, fun σ H B w F Q k => ea σ H B w F _ fun x H1 B1 w1 s1 F1 i1 => el σ H1 B1 w1 F1 _ fun H2 B2 w2 s2 F2 => eh σ H2 B2 w2 F2 _ fun H3 B3 w3 s3 F3 => ?_⟩
  have i3 : Dp X.K B3 x (.tuple xs) := (i1.step s2).step s3
  obtain ⟨l', vs, e, sq, d⟩ := dp_tup i3
  subst e
  have hlen := dpa_len d
  refine ⟨l', vs, rfl, same_t F3.ext sq, fun hw => ?_, fun hw q hq => ?_⟩
  · refine k _ _ _ _ ((s1.trans s2).trans s3) F3 (.tup sq ?_)
    rw [hlen] at hw
    have : cutA xs l u = xs := by
      unfold cutA
      rw [hw.1, hw.2, List.drop_zero, Nat.sub_zero, List.take_length]
    rw [this]
    exact d
  · obtain ⟨s4, F4, i4⟩ := new_tup (T := p.T) F3 hq (dpa_cut l u d)
    exact k _ _ _ _ (((s1.trans s2).trans s3).trans s4) F4 i4

/-! ### arguments, displays -/
theorem ItVs.step {w1 : Addr → Option Nat} {B1 H1 : Hp} : ∀ {vs : List V} {rs : List Rs}, ItVs K B w H H0 σ vs rs → Stp T w B H w1 B1 H1 → ItVs K B1 w1 H1 H0 σ vs rs
  | _, _, .nil, _ => .nil
  | _, _, .cons h t, s => .cons (h.step s) (ItVs.step t s)
theorem ItVs.back {w1 w2 : Addr → Option Nat} {B1 B2 H1 : Hp} : ∀ {vs : List V} {rs : List Rs}, ItVs K B w H H1 σ vs rs → Stp T w1 B1 H0 w2 B2 H1 → ItVs K B w H H0 σ vs rs
  | _, _, .nil, _ => .nil
  | _, _, .cons h t, s => .cons (h.back s) (ItVs.back t s)
theorem ra_nil : RA X p [] ρ [] ρ := ⟨_, pa_nil, fun σ H B w F Q k => k [] H B w Stp.refl F .nil⟩
theorem ra_cons (h : RV X p e ρ r ρ1) (t : RA X p es ρ1 rs ρ2) (hs : starEach (e :: es) X.env = (false, eval e X.env) :: starEach es X.env := by rfl) : RA X p (e :: es) ρ (r :: rs) ρ2 := by
  obtain ⟨te, pe, ee⟩ := h
  obtain ⟨ta, pa, ea⟩ := t
  exact ⟨_, pa_cons pe pa hs, fun σ H B w F Q k => ee σ H B w F _ fun v H1 B1 w1 s1 F1 i1 => ea σ H1 B1 w1 F1 _ fun vs H2 B2 w2 s2 F2 i2 => k _ H2 B2 w2 (s1.trans s2) F2 (.cons (i1.step s2) (i2.back s1))⟩
theorem itvs_da : ∀ {vs : List V} {xs : List PyData}, ItVs K B w H H0 σ vs (xs.map .da) → DpAll K B vs xs
  | _, [], .nil => .nil
  | _, x :: xs, .cons h t => .cons h (itvs_da t)
theorem rv_tup {j} (h : RA X p es ρ (xs.map .da) ρ1) (hl : xs.length ≤ 100000 := by first | decide | (simp; done)) : RV X p (.Tuple es j pos) ρ (.da (.tuple xs)) ρ1 := by
  obtain ⟨ta, pa, ea⟩ := h
  refine ⟨_, pe_tup pa, fun σ H B w F Q k => ea σ H B w F _ fun vs H1 B1 w1 s1 F1 i1 => ?_⟩
  have d := itvs_da i1
  refine ⟨by rw [dpa_len d]; exact Nat.le_trans hl (by decide), fun q hq => ?_⟩
  obtain ⟨s4, F4, i4⟩ := new_tup (T := p.T) F1 hq d
  exact k _ _ _ _ (s1.trans s4) F4 i4
theorem rv_lst (h : RA X p es ρ (xs.map .da) ρ1) (hl : xs.length ≤ 100000 := by first | decide | (simp; done)) : RV X p (.List es pos) ρ (.li xs) ρ1 := by
  obtain ⟨ta, pa, ea⟩ := h
  refine ⟨_, pe_lst pa, fun σ H B w F Q k => ea σ H B w F _ fun vs H1 B1 w1 s1 F1 i1 => ?_⟩
  have d := itvs_da i1
  refine ⟨by rw [dpa_len d]; exact Nat.le_trans hl (by decide), fun q hq => ?_⟩
  obtain ⟨s4, F4, i4⟩ := new_lst (T := p.T) F1 hq d
  exact k _ _ _ _ (s1.trans s4) F4 (i4.back s1)
end
end Dn

set_option Elab.async false
set_option linter.all false
set_option maxRecDepth 100000
set_option maxHeartbeats 1000000
namespace Dn
open PySem PySem.Spec PyProof.Rows L2

section
variable {X : Cx} {p : Pm} {ρ ρ1 ρ2 ρ3 ρ4 : Rho} {a b c e : Expr} {es : List Expr} {ra rb rc r : Rs} {rs : List Rs} {pos pos' : Pos}
variable {K : PySem.W.Frag} {T : List (Addr × Str)} {φ : Nat → Option V} {w : Addr → Option Nat} {B H H0 : Hp} {σ : L2.St} {x y v : V} {vs : List V} {xs ys : List PyData} {q : Addr} {k1 k2 : Bool}

/-! ### weaker slots -/
inductive Wk : Rho → Rho → Prop
  | nil : Wk [] []
  | same {d : Option Dt} {l m : Rho} : Wk l m → Wk (d :: l) (d :: m)
  | drop {d : Option Dt} {l m : Rho} : Wk l m → Wk (d :: l) (none :: m)
theorem Wk.refl : ∀ ρ : Rho, Wk ρ ρ
  | [] => .nil
  | _ :: l => .same (Wk.refl l)
theorem Wk.at : ∀ {l m : Rho} {i : Nat} {d : Dt}, Wk l m → m[i]? = some (some d) → l[i]? = some (some d)
  | _, _, i, _, .nil, h => by simp at h
  | _, _, 0, _, .same _, h => by simpa using h
  | _, _, 0, _, .drop _, h => by simp at h
  | _, _, i + 1, _, .same t, h => by simpa using Wk.at (i := i) t (by simpa using h)
  | _, _, i + 1, _, .drop t, h => by simpa using Wk.at (i := i) t (by simpa using h)
theorem Wk.len : ∀ {l m : Rho}, Wk l m → l.length = m.length
  | _, _, .nil => rfl
  | _, _, .same t => congrArg (· + 1) (Wk.len t)
  | _, _, .drop t => congrArg (· + 1) (Wk.len t)
theorem Rl.weak (F : Rl K T φ B w H σ ρ) (h : Wk ρ ρ1) : Rl K T φ B w H σ ρ1 :=
  ⟨F.ext, h.len.symm.trans F.len, F.wok, F.tabs, F.nt, F.fix, fun i x e => F.dat i x (h.at e), fun i xs e => F.own i xs (h.at e), fun i O e => F.obj i O (h.at e)⟩
theorem rv_weak (h : RV X p e ρ r ρ1) (wk : Wk ρ1 ρ2) : RV X p e ρ r ρ2 := by
  obtain ⟨t, pt, et⟩ := h
  exact ⟨t, pt, fun σ H B w F Q k => et σ H B w F Q fun v H' B' w' s F' i => k v H' B' w' s (F'.weak wk) i⟩

/-! ### tests -/
theorem rt_val (h : RV X p e ρ (.da (.bool k1)) ρ1) (he : ∀ whole, isTrue e X.env whole = (do let v ← whole; standAt e.pos; holding [v] (truthy v)) := by intro _; rfl) : RT X p e ρ k1 ρ1 := by
  obtain ⟨t, pt, et⟩ := h
  exact ⟨_, pt_val pt he, fun σ H B w F Q k => et σ H B w F _ fun v H' B' w' s F' d => ⟨k1, dp_bool d, k H' B' w' s F'⟩⟩
theorem rt_cmp {op : CmpOp} (ha : RV X p a ρ ra ρ1) (hb : RV X p b ρ1 rb ρ2) (ho : OpV X p (compareOp op) ra rb ρ2 (.da (.bool k1))) (hm : behindInMarks op b = false := by first | exact nomark _ | rfl) : RT X p (.Compare a [op] [b] pos) ρ k1 ρ2 := by
  obtain ⟨ta, pa, ea⟩ := ha
  obtain ⟨tb, pb, eb⟩ := hb
  obtain ⟨q, oq, hq⟩ := ho
  exact ⟨_, pt_cmpR oq pa pb hm, fun σ H B w F Q k => evs_bin ea eb hq σ H B w F _ fun v H' B' w' s F' d => ⟨k1, dp_bool d, k H' B' w' s F'⟩⟩
theorem rt_not (h : RT X p a ρ k1 ρ1) : RT X p (.UnaryOp .Not a pos) ρ (!k1) ρ1 := by
  obtain ⟨t, pt, et⟩ := h
  exact ⟨_, pt_not pt, fun σ H B w F Q k => et σ H B w F _ fun H' B' w' s F' => k H' B' w' s F'⟩
theorem rt_w (h : RW X p a ρ k1 ρ1) : RT X p a ρ k1 ρ1 := by
  obtain ⟨t, pt, et⟩ := h
  exact ⟨t, pt.pt, et⟩
theorem rw_and1 (h : RT X p a ρ k1 ρ1) : RW X p (.BoolOp .And [a] pos) ρ k1 ρ1 := by
  obtain ⟨t, pt, et⟩ := h
  exact ⟨t, pw_and1 pt, et⟩
theorem rw_or1 (h : RT X p a ρ k1 ρ1) : RW X p (.BoolOp .Or [a] pos) ρ k1 ρ1 := by
  obtain ⟨t, pt, et⟩ := h
  exact ⟨t, pw_or1 pt, et⟩
theorem pw_no : PW X e (fun _ _ _ => False) := ⟨fun _ _ _ _ _ _ _ h => h.elim⟩
theorem pe_no : PE X e (fun _ _ _ => False) := ⟨fun _ _ _ _ _ _ h => h.elim⟩
theorem pt_no : PT X e (fun _ _ _ => False) := ⟨fun _ _ _ _ _ _ h => h.elim⟩
theorem pss_no {sts : List Stmt} : PSs X sts (fun _ _ _ => False) := ⟨fun _ _ _ _ _ _ h => h.elim⟩
theorem rw_and {rest : List Expr} (h1 : RT X p a ρ k1 ρ1) (h2 : k1 = true → RW X p (.BoolOp .And (b :: rest) pos) ρ1 k2 ρ1) : RW X p (.BoolOp .And (a :: b :: rest) pos) ρ (k1 && k2) ρ1 := by
  obtain ⟨t, pt, et⟩ := h1
  cases k1 with
  | true =>
    obtain ⟨u, pu, eu⟩ := h2 rfl
    refine ⟨_, pw_and pt pu, fun σ H B w F Q k => et σ H B w F _ fun H1 B1 w1 s1 F1 => ?_⟩
    rw [if_pos rfl]
    exact eu σ H1 B1 w1 F1 _ fun H2 B2 w2 s2 F2 => k H2 B2 w2 (s1.trans s2) F2
  | false =>
    refine ⟨_, pw_and pt pw_no, fun σ H B w F Q k => et σ H B w F _ fun H1 B1 w1 s1 F1 => ?_⟩
    rw [if_neg (by decide)]
    exact k H1 B1 w1 s1 F1
theorem rw_or {rest : List Expr} (h1 : RT X p a ρ k1 ρ1) (h2 : k1 = false → RW X p (.BoolOp .Or (b :: rest) pos) ρ1 k2 ρ1) : RW X p (.BoolOp .Or (a :: b :: rest) pos) ρ (k1 || k2) ρ1 := by
  obtain ⟨t, pt, et⟩ := h1
  cases k1 with
  | false =>
    obtain ⟨u, pu, eu⟩ := h2 rfl
    refine ⟨_, pw_or pt pu, fun σ H B w F Q k => et σ H B w F _ fun H1 B1 w1 s1 F1 => ?_⟩
    rw [if_neg (by decide)]
    exact eu σ H1 B1 w1 F1 _ fun H2 B2 w2 s2 F2 => k H2 B2 w2 (s1.trans s2) F2
  | true =>
    refine ⟨_, pw_or pt pw_no, fun σ H B w F Q k => et σ H B w F _ fun H1 B1 w1 s1 F1 => ?_⟩
    rw [if_pos rfl]
    exact k H1 B1 w1 s1 F1
/-- the same as values: all are bools -/
theorem rv_and1 {op} (h : RV X p a ρ r ρ1) : RV X p (.BoolOp op [a] pos) ρ r ρ1 := by
  obtain ⟨t, pt, et⟩ := h
  exact ⟨t, pe_one pt, et⟩
theorem rv_and {rest : List Expr} (h1 : RV X p a ρ (.da (.bool k1)) ρ1) (h2 : k1 = true → RV X p (.BoolOp .And (b :: rest) pos) ρ1 (.da (.bool k2)) ρ1) : RV X p (.BoolOp .And (a :: b :: rest) pos) ρ (.da (.bool (k1 && k2))) ρ1 := by
  obtain ⟨t, pt, et⟩ := h1
  cases k1 with
  | true =>
    obtain ⟨u, pu, eu⟩ := h2 rfl
    refine ⟨_, pe_and pt pu, fun σ H B w F Q k => et σ H B w F _ fun v H1 B1 w1 s1 F1 d1 => ⟨true, dp_bool d1, ?_⟩⟩
    rw [if_pos rfl]
    exact eu σ H1 B1 w1 F1 _ fun v H2 B2 w2 s2 F2 d => k v H2 B2 w2 (s1.trans s2) F2 (ItV.back (r := .da _) d s1)
  | false =>
    refine ⟨_, pe_and pt pe_no, fun σ H B w F Q k => et σ H B w F _ fun v H1 B1 w1 s1 F1 d1 => ⟨false, dp_bool d1, ?_⟩⟩
    rw [if_neg (by decide)]
    exact k _ H1 B1 w1 s1 F1 (.bl _)
theorem rv_or {rest : List Expr} (h1 : RV X p a ρ (.da (.bool k1)) ρ1) (h2 : k1 = false → RV X p (.BoolOp .Or (b :: rest) pos) ρ1 (.da (.bool k2)) ρ1) : RV X p (.BoolOp .Or (a :: b :: rest) pos) ρ (.da (.bool (k1 || k2))) ρ1 := by
  obtain ⟨t, pt, et⟩ := h1
  cases k1 with
  | false =>
    obtain ⟨u, pu, eu⟩ := h2 rfl
    refine ⟨_, pe_or pt pu, fun σ H B w F Q k => et σ H B w F _ fun v H1 B1 w1 s1 F1 d1 => ⟨false, dp_bool d1, ?_⟩⟩
    rw [if_neg (by decide)]
    exact eu σ H1 B1 w1 F1 _ fun v H2 B2 w2 s2 F2 d => k v H2 B2 w2 (s1.trans s2) F2 (ItV.back (r := .da _) d s1)
  | true =>
    refine ⟨_, pe_or pt pe_no, fun σ H B w F Q k => et σ H B w F _ fun v H1 B1 w1 s1 F1 d1 => ⟨true, dp_bool d1, ?_⟩⟩
    rw [if_pos rfl]
    exact k _ H1 B1 w1 s1 F1 (.bl _)
theorem rv_not (h : RV X p a ρ (.da (.bool k1)) ρ1) : RV X p (.UnaryOp .Not a pos) ρ (.da (.bool (!k1))) ρ1 := by
  obtain ⟨t, pt, et⟩ := h
  exact ⟨_, pe_not pt, fun σ H B w F Q k => et σ H B w F _ fun v H' B' w' s F' d => ⟨k1, dp_bool d, k _ H' B' w' s F' (.bl _)⟩⟩
theorem rv_neg {i : Int} (h : RV X p a ρ (.da (.int i)) ρ1) : RV X p (.UnaryOp .USub a pos) ρ (.da (.int (-i))) ρ1 := by
  obtain ⟨t, pt, et⟩ := h
  exact ⟨_, pe_un un_neg pt, fun σ H B w F Q k => et σ H B w F _ fun v H' B' w' s F' d => ⟨i, dp_int d, k _ H' B' w' s F' (.int _)⟩⟩
theorem rv_if (hc : RT X p c ρ k1 ρ1) (h1 : k1 = true → RV X p a ρ1 r ρ2) (h2 : k1 = false → RV X p b ρ1 r ρ2) : RV X p (.IfExp c a b pos) ρ r ρ2 := by
  obtain ⟨t, pt, et⟩ := hc
  cases k1 with
  | true =>
    obtain ⟨u, pu, eu⟩ := h1 rfl
    refine ⟨_, pe_ifExp pt pu pe_no, fun σ H B w F Q k => et σ H B w F _ fun H1 B1 w1 s1 F1 => ?_⟩
    rw [if_pos rfl]
    exact eu σ H1 B1 w1 F1 _ fun v H2 B2 w2 s2 F2 d => k v H2 B2 w2 (s1.trans s2) F2 (d.back s1)
  | false =>
    obtain ⟨u, pu, eu⟩ := h2 rfl
    refine ⟨_, pe_ifExp pt pe_no pu, fun σ H B w F Q k => et σ H B w F _ fun H1 B1 w1 s1 F1 => ?_⟩
    rw [if_neg (by decide)]
    exact eu σ H1 B1 w1 F1 _ fun v H2 B2 w2 s2 F2 d => k v H2 B2 w2 (s1.trans s2) F2 (d.back s1)
/-- a < b < c -/
theorem rv_chain {op op' : CmpOp} (ha : RV X p a ρ ra ρ1) (hb : RV X p b ρ1 rb ρ2) (h1 : OpV X p (compareOp op) ra rb ρ2 (.da (.bool k1))) (hc : k1 = true → RV X p c ρ2 rc ρ2)
    (h2 : k1 = true → OpV X p (compareOp op') rb rc ρ2 (.da (.bool k2))) (hm : lastMarks [op, op'] [b, c] = false := by with_unfolding_all rfl) : RV X p (.Compare a [op, op'] [b, c] pos) ρ (.da (.bool (k1 && k2))) ρ2 := by
  obtain ⟨ta, pa, ea⟩ := ha
  obtain ⟨tb, pb, eb⟩ := hb
  obtain ⟨q, oq, hq⟩ := h1
  cases k1 with
  | true =>
    obtain ⟨tc, pc, ec⟩ := hc rfl
    obtain ⟨q', oq', hq'⟩ := h2 rfl
    refine ⟨_, pe_chain oq oq' pa pb pc hm, fun σ H B w F Q k => ea σ H B w F _ fun x H1 B1 w1 s1 F1 i1 => eb σ H1 B1 w1 F1 _ fun y H2 B2 w2 s2 F2 i2 =>
      hq σ H2 B2 w2 x y H F2 F2.ext (i1.step s2) (i2.back s1) _ fun z H3 B3 w3 s3 F3 d3 => ⟨true, dp_bool d3, ?_⟩⟩
    rw [if_pos rfl]
    exact ec σ H3 B3 w3 F3 _ fun z H4 B4 w4 s4 F4 i4 => hq' σ H4 B4 w4 y z H F4 F4.ext (((i2.back s1).step s3).step s4) (((i4.back s3).back s2).back s1) _ fun u H5 B5 w5 s5 F5 d5 =>
      k u H5 B5 w5 ((((s1.trans s2).trans s3).trans s4).trans s5) F5 (ItV.back (r := .da _) d5 (((s1.trans s2).trans s3).trans s4))
  | false =>
    refine ⟨_, pe_chain (op' := op') (r' := fun _ _ _ _ => False) oq (fun _ _ _ _ _ _ _ _ _ _ _ _ h => h.elim) pa pb pe_no hm, fun σ H B w F Q k => ea σ H B w F _ fun x H1 B1 w1 s1 F1 i1 => eb σ H1 B1 w1 F1 _ fun y H2 B2 w2 s2 F2 i2 =>
      hq σ H2 B2 w2 x y H F2 F2.ext (i1.step s2) (i2.back s1) _ fun z H3 B3 w3 s3 F3 d3 => ⟨false, dp_bool d3, ?_⟩⟩
    rw [if_neg (by decide)]
    exact k _ H3 B3 w3 ((s1.trans s2).trans s3) F3 (.bl _)
theorem rt_chain {op op' : CmpOp} (ha : RV X p a ρ ra ρ1) (hb : RV X p b ρ1 rb ρ2) (h1 : OpV X p (compareOp op) ra rb ρ2 (.da (.bool k1))) (hc : k1 = true → RV X p c ρ2 rc ρ2)
    (h2 : k1 = true → OpV X p (compareOp op') rb rc ρ2 (.da (.bool k2))) (hm : lastMarks [op, op'] [b, c] = false := by with_unfolding_all rfl)
    (he : ∀ whole, isTrue (.Compare a [op, op'] [b, c] pos) X.env whole = (do let v ← whole; standAt (Expr.Compare a [op, op'] [b, c] pos).pos; holding [v] (truthy v)) := by intro _; rfl) : RT X p (.Compare a [op, op'] [b, c] pos) ρ (k1 && k2) ρ2 :=
  rt_val (rv_chain ha hb h1 hc h2 hm) he
end
end Dn

set_option Elab.async false
set_option linter.all false
set_option maxRecDepth 100000
set_option maxHeartbeats 1000000
namespace Dn
open PySem PySem.Spec PyProof.Rows L2

section
variable {X : Cx} {p : Pm} {ρ ρ1 ρ2 ρ3 ρ4 : Rho} {a b c e : Expr} {es : List Expr} {ra rb rc r : Rs} {rs : List Rs} {pos pos' : Pos}
variable {K : PySem.W.Frag} {T : List (Addr × Str)} {φ : Nat → Option V} {w : Addr → Option Nat} {B H H0 : Hp} {σ : L2.St} {x y v : V} {vs : List V} {xs ys : List PyData} {q : Addr} {k1 k2 : Bool}

/-! ### calls of what is built in -/
def CalV (X : Cx) (p : Pm) (f : Value) (rs : List Rs) (ρ : Rho) (r : Rs) : Prop :=
  ∃ q : List V → Hp → VK → Prop, CallR X f q ∧ ∀ σ H B w vs H0, Rl X.K p.T p.φ B w H σ ρ → ItVs X.K B w H H0 σ vs rs → ∀ Q : VK, (∀ v H' B' w', Stp p.T w B H w' B' H' → Rl X.K p.T p.φ B' w' H' σ ρ → ItV X.K B' w' H' H σ v r → Q v H') → q vs H Q
theorem rv_callB {n : Str} {id : String} {pp : Pos} (ha : RA X p (e :: es) ρ rs ρ1) (hc : CalV X p (.builtin id) rs ρ1 r) (hm : X.mg n = none) (hg : Gl X n := by rfl) (hv : bootBuiltins n = some (.builtin id) := by decide +kernel)
    (hn : n ≠ "__name__" := by decide) (hdb : (n == ("__debug__" : Str)) = false := by decide) (he : starEach (e :: es) X.env = (false, eval e X.env) :: starEach es X.env := by rfl) (hpl : (backTo pos (starEach es X.env)).any (·.1) = false := by rfl) :
    RV X p (.Call (.Name n pp) (e :: es) [] pos) ρ r ρ1 := by
  obtain ⟨t, pt, et⟩ := ha
  obtain ⟨q, cq, hq⟩ := hc
  exact ⟨_, pe_callB cq hg hm hv pt hn hdb he hpl, fun σ H B w F Q k => et σ H B w F _ fun vs H1 B1 w1 s1 F1 i1 => hq σ H1 B1 w1 vs H F1 i1 Q fun v H2 B2 w2 s2 F2 i2 => k v H2 B2 w2 (s1.trans s2) F2 (i2.back s1)⟩
theorem rv_callTy {n : Str} {id : String} {pp : Pos} (ha : RA X p (e :: es) ρ rs ρ1) (hc : CalV X p (.type id) rs ρ1 r) (hm : X.mg n = none) (hg : Gl X n := by rfl) (hv : bootBuiltins n = some (.type id) := by decide +kernel)
    (hn : n ≠ "__name__" := by decide) (hdb : (n == ("__debug__" : Str)) = false := by decide) (he : starEach (e :: es) X.env = (false, eval e X.env) :: starEach es X.env := by rfl) (hpl : (backTo pos (starEach es X.env)).any (·.1) = false := by rfl) :
    RV X p (.Call (.Name n pp) (e :: es) [] pos) ρ r ρ1 := by
  obtain ⟨t, pt, et⟩ := ha
  obtain ⟨q, cq, hq⟩ := hc
  exact ⟨_, pe_callTy cq hg hm hv pt hn hdb he hpl, fun σ H B w F Q k => et σ H B w F _ fun vs H1 B1 w1 s1 F1 i1 => hq σ H1 B1 w1 vs H F1 i1 Q fun v H2 B2 w2 s2 F2 i2 => k v H2 B2 w2 (s1.trans s2) F2 (i2.back s1)⟩
theorem cal_now {f : Value} {q : List V → Hp → VK → Prop} {z : PyData} (cq : CallR X f q) (h : ∀ σ H B w vs H0, Rl X.K p.T p.φ B w H σ ρ → ItVs X.K B w H H0 σ vs rs → ∃ v, Dp X.K B v z ∧ ∀ Q : VK, Q v H → q vs H Q) : CalV X p f rs ρ (.da z) :=
  ⟨q, cq, fun σ H B w vs H0 F i Q k =>
    let ⟨v, d, g⟩ := h σ H B w vs H0 F i
    g Q (k v H B w Stp.refl F d)⟩
theorem itvs1 (i : ItVs K B w H H0 σ vs [r]) : ∃ v, vs = [v] ∧ ItV K B w H H0 σ v r := by
  cases i with
  | cons h t =>
    cases t
    exact ⟨_, rfl, h⟩
theorem itvs2 (i : ItVs K B w H H0 σ vs [ra, rb]) : ∃ v u, vs = [v, u] ∧ ItV K B w H H0 σ v ra ∧ ItV K B w H H0 σ u rb := by
  cases i with
  | cons h t =>
    obtain ⟨u, e, h2⟩ := itvs1 t
    exact ⟨_, u, by rw [e], h, h2⟩
theorem cv_len {t : Bool} (h : Vw ρ r t xs) : CalV X p (.builtin "len") [r] ρ (.da (.int (xs.length : Int))) :=
  cal_now call_len_seq fun σ H B w vs H0 F i => by
    obtain ⟨v, rfl, i1⟩ := itvs1 i
    obtain ⟨l, us, rfl, sq, d⟩ := vw_ok F i1 h
    exact ⟨.int (us.length : Int), by rw [dpa_len d]; exact .int _, fun Q q => ⟨l, us, rfl, sq.any, q⟩⟩
theorem cv_abs {i : Int} : CalV X p (.builtin "abs") [.da (.int i)] ρ (.da (.int (if i < 0 then -i else i))) :=
  cal_now call_abs fun σ H B w vs H0 F it => by
    obtain ⟨v, rfl, i1⟩ := itvs1 it
    exact ⟨_, .int _, fun Q q => ⟨i, by rw [dp_int i1], q⟩⟩
theorem cv_int {i : Int} : CalV X p (.type "int") [.da (.int i)] ρ (.da (.int i)) :=
  cal_now call_int1 fun σ H B w vs H0 F it => by
    obtain ⟨v, rfl, i1⟩ := itvs1 it
    exact ⟨_, .int _, fun Q q => .inl ⟨i, by rw [dp_int i1], q⟩⟩
theorem cv_max2 {i j : Int} (hc : X.calm = true) : CalV X p (.builtin "max") [.da (.int i), .da (.int j)] ρ (.da (.int (if j > i then j else i))) :=
  cal_now (call_max2 hc) fun σ H B w vs H0 F it => by
    obtain ⟨v, u, rfl, i1, i2⟩ := itvs2 it
    exact ⟨_, .int _, fun Q q => ⟨i, j, by rw [dp_int i1, dp_int i2], q⟩⟩
theorem cv_min2 {i j : Int} (hc : X.calm = true) : CalV X p (.builtin "min") [.da (.int i), .da (.int j)] ρ (.da (.int (if j < i then j else i))) :=
  cal_now (call_min2 hc) fun σ H B w vs H0 F it => by
    obtain ⟨v, u, rfl, i1, i2⟩ := itvs2 it
    exact ⟨_, .int _, fun Q q => ⟨i, j, by rw [dp_int i1, dp_int i2], q⟩⟩
theorem cv_sumL {ns : List Int} (hc : X.calm = true) (h : Vw ρ r false (ns.map .int)) : CalV X p (.builtin "sum") [r] ρ (.da (.int ns.sum)) :=
  cal_now (cr_sum hc) fun σ H B w vs H0 F i => by
    obtain ⟨v, rfl, i1⟩ := itvs1 i
    obtain ⟨l, us, rfl, sq, d⟩ := vw_ok F i1 h
    obtain rfl := dpa_ints d
    exact ⟨_, .int _, fun Q q => ⟨l, ns, rfl, sq, q⟩⟩
theorem cv_all {bs : List Bool} (hc : X.calm = true) (h : Vw ρ r false (bs.map .bool)) : CalV X p (.builtin "all") [r] ρ (.da (.bool (bs.all id))) :=
  cal_now (cr_all hc) fun σ H B w vs H0 F i => by
    obtain ⟨v, rfl, i1⟩ := itvs1 i
    obtain ⟨l, us, rfl, sq, d⟩ := vw_ok F i1 h
    obtain rfl := dpa_bools d
    exact ⟨_, .bl _, fun Q q => ⟨l, bs, rfl, sq, q⟩⟩
theorem cv_any {bs : List Bool} (hc : X.calm = true) (h : Vw ρ r false (bs.map .bool)) : CalV X p (.builtin "any") [r] ρ (.da (.bool (bs.any id))) :=
  cal_now (cr_any hc) fun σ H B w vs H0 F i => by
    obtain ⟨v, rfl, i1⟩ := itvs1 i
    obtain ⟨l, us, rfl, sq, d⟩ := vw_ok F i1 h
    obtain rfl := dpa_bools d
    exact ⟨_, .bl _, fun Q q => ⟨l, bs, rfl, sq, q⟩⟩
theorem cv_list {t : Bool} (h : Vw ρ r t xs) : CalV X p (.type "list") [r] ρ (.li xs) :=
  ⟨_, call_list_of, fun σ H B w vs H0 F i Q k => by
    obtain ⟨v, rfl, i1⟩ := itvs1 i
    obtain ⟨l, us, rfl, sq, d⟩ := vw_ok F i1 h
    refine ⟨l, us, rfl, sq.any, fun q hq => ?_⟩
    obtain ⟨s4, F4, i4⟩ := new_lst (T := p.T) F hq d
    exact k _ _ _ _ s4 F4 i4⟩
theorem cv_tuple (h : Vw ρ r false xs) : CalV X p (.type "tuple") [r] ρ (.da (.tuple xs)) :=
  ⟨_, call_tuple_of, fun σ H B w vs H0 F i Q k => by
    obtain ⟨v, rfl, i1⟩ := itvs1 i
    obtain ⟨l, us, rfl, sq, d⟩ := vw_ok F i1 h
    refine ⟨l, us, rfl, .inl ⟨sq, fun q hq => ?_⟩⟩
    obtain ⟨s4, F4, i4⟩ := new_tup (T := p.T) F hq d
    exact k _ _ _ _ s4 F4 i4⟩
/-- lists laid together -/
theorem ov_cat (ha : Vw ρ ra false xs) (hb : Vw ρ rb false ys) (hl : xs.length + ys.length ≤ 100000)
    (na : ∀ z, ra ≠ .da z) (nb : ∀ z, rb ≠ .da z) : OpV X p (binaryOp .Add) ra rb ρ (.li (xs ++ ys)) :=
  ⟨_, op_cat, fun σ H B w x y H0 F s ia ib Q k => by
    have hmut : ∀ {r : Rs} {x : V} {xs : List PyData}, ItV X.K B w H H0 σ x r → Vw ρ r false xs → (∀ z, r ≠ .da z) → ∃ l vs, x = .ref l ∧ H l = some (.lst vs) ∧ DpAll X.K B vs xs := by
      intro r x xs i h n
      cases h with
      | dl => exact absurd rfl (n _)
      | li =>
        obtain ⟨l, vs, e, _, _, _, h, d⟩ := i
        exact ⟨l, vs, e, h, d⟩
      | @sl j xs e =>
        obtain ⟨l, vs, h1, _, _, h4, d⟩ := F.own j xs e
        have i' : σ[j]? = some (some x) := i
        rw [h1] at i'
        exact ⟨l, vs, (Option.some.inj (Option.some.inj i')).symm, h4, d⟩
    obtain ⟨l, us, rfl, h1, d1⟩ := hmut ia ha na
    obtain ⟨m, ws, rfl, h2, d2⟩ := hmut ib hb nb
    refine ⟨l, m, us, ws, rfl, rfl, h1, h2, by rw [dpa_len d1, dpa_len d2]; exact Nat.le_trans hl (by decide), fun q hq => ?_⟩
    obtain ⟨s4, F4, i4⟩ := new_lst (T := p.T) F hq (dpa_app d1 d2)
    exact k _ _ _ _ s4 F4 i4⟩
/-- tuples laid together -/
theorem ov_catT (hl : xs.length + ys.length ≤ 100000) : OpV X p (binaryOp .Add) (.da (.tuple xs)) (.da (.tuple ys)) ρ (.da (.tuple (xs ++ ys))) :=
  ⟨_, op_catA, fun σ H B w x y H0 F s ia ib Q k => by
    obtain ⟨l, us, rfl, h1, d1⟩ := dp_tup ia
    obtain ⟨m, ws, rfl, h2, d2⟩ := dp_tup ib
    refine ⟨l, m, us, ws, rfl, rfl, same_t F.ext h1, same_t F.ext h2, by rw [dpa_len d1, dpa_len d2]; exact Nat.le_trans hl (by decide), fun e => ?_, fun e1 e2 => ?_, fun e1 e2 q hq => ?_⟩
    · subst e
      cases d1
      exact k _ _ _ _ Stp.refl F ib
    · subst e2
      cases d2
      rw [List.append_nil] at k
      exact k _ _ _ _ Stp.refl F ia
    · obtain ⟨s4, F4, i4⟩ := new_tup (T := p.T) F hq (dpa_app d1 d2)
      exact k _ _ _ _ s4 F4 i4⟩

/-! ### defs of the program -/
/-- what an error keeps: a text or an int -/
inductive Xn where
  | s (z : Str)
  | i (n : Int)
def Xn.val : Xn → V
  | .s z => .str z
  | .i n => .int n
def Xn.d : Xn → PyData
  | .s z => .str z
  | .i n => .int n
instance : Coe Str Xn := ⟨Xn.s⟩
inductive Oc where
  | ret (r : Rs)
  | err (nm : Xn)
structure Er where
  C : Addr
  fl : Str
  E : XK
def noW : Addr → Option Nat := fun _ => none
def noφ : Nat → Option V := fun _ => none
/-- the promise of a def that takes data -/
def spP (K : PySem.W.Frag) (T : List (Addr × Str)) (C : Addr) (fl : Str) (S : List PyData → Oc → Prop) : Sp := fun vs H Q E =>
  ∃ xs oc B, S xs oc ∧ Same B H ∧ LamX.Tabs T H ∧ (∀ a ps, B a ≠ some (.tbl ps)) ∧ DpAll K B vs xs ∧ match oc with
    | .ret r => ∀ v H' B' w', Stp T noW B H w' B' H' → Same B' H' → ItV K B' w' H' H [] v r → Q v H'
    | .err nm => ∀ d H' B' w', Stp T noW B H w' B' H' → Same B' H' → H' d = some (.xd [(fl, nm.val)]) → E (.ref C) (some d) H'
/-- .. whose first argument is a list of ours -/
def spO (K : PySem.W.Frag) (T : List (Addr × Str)) (C : Addr) (fl : Str) (S : List PyData → List PyData → Oc → List PyData → Prop) : Sp := fun vs H Q E =>
  ∃ (l : Addr) (us : List V) (zs : List PyData) (xs : List PyData) (oc : Oc) (zs' : List PyData) (B : Hp) (ws : List V), vs = .ref l :: us ∧ S zs xs oc zs' ∧ Same B H ∧ LamX.Tabs T H ∧ (∀ a ps, B a ≠ some (.tbl ps)) ∧ DpAll K B us xs ∧ B l = none ∧ H l = some (.lst ws) ∧ DpAll K B ws zs ∧
    match oc with
    | .ret r => ∀ v H' B' w' ws', Stp T (fun a => if a = l then some 0 else none) B H w' B' H' → Same B' H' → B' l = none → H' l = some (.lst ws') → DpAll K B' ws' zs' → ItV K B' w' H' H [] v r → (∀ xs, r = .li xs → v ≠ .ref l) → Q v H'
    | .err nm => False
theorem ItV.slots {σ' : L2.St} (h : ItV K B w H H0 σ v r) (n : ∀ i, r ≠ .sl i) : ItV K B w H H0 σ' v r := by
  cases r with
  | da z => exact h
  | li zs => exact h
  | sl i => exact absurd rfl (n i)
/-- what a call of data leaves to the caller -/
theorem Rl.after {w' : Addr → Option Nat} {B' H' : Hp} (F : Rl K T φ B w H σ ρ) (s : Stp T noW B H w' B' H') (e : Same B' H') : Stp T w B H w B' H' ∧ Rl K T φ B' w H' σ ρ := by
  refine ⟨⟨s.bb, fun a o h _ n => s.hh a o h rfl n, s.th, fun a h hb _ => s.nb a h hb rfl, s.tb, s.nt, fun a h => .inl h⟩, ⟨e, F.len, fun a h => s.th a (F.wok a h), s.tb F.tabs, s.nt F.nt, F.fix, fun i z h => ?_, fun i zs h => ?_, fun i O h => ?_⟩⟩
  · obtain ⟨v, h1, h2⟩ := F.dat i z h
    exact ⟨v, h1, dq_mono s.bb h2⟩
  · obtain ⟨l, us, h1, h2, h3, h4, h5⟩ := F.own i zs h
    exact ⟨l, us, h1, h2, s.nb l (live_lst h4) h3 rfl, s.hh l _ h4 rfl (fun ps z => by cases z), dpa_mono s.bb h5⟩
  · obtain ⟨l, us, h1, h2, h3, h4, h5, lv, nt⟩ := F.objx h
    exact ⟨l, us, h1, h2, s.nb l lv h3 rfl, s.hh l _ h4 rfl nt, O.mono s.bb h5⟩
theorem ItV.after {K : PySem.W.Frag} {T : List (Addr × Str)} {φ : Nat → Option V} {w w' : Addr → Option Nat} {B H B' H' : Hp} {σ : L2.St} {ρ : Rho} {v : V} {r : Rs} (F : Rl K T φ B w H σ ρ) (i : ItV K B' w' H' H [] v r) (n : ∀ i, r ≠ .sl i) : ItV K B' w H' H σ v r := by
  cases r with
  | da z => exact i
  | li zs =>
    obtain ⟨l, us, e, h0, hw, q⟩ := i
    exact ⟨l, us, e, h0, w_none' F h0, q⟩
  | sl j => exact absurd rfl (n j)
end
end Dn

set_option Elab.async false
set_option linter.all false
set_option maxRecDepth 100000
set_option maxHeartbeats 1000000
namespace Dn
open PySem PySem.Spec PyProof.Rows L2

/-- how a call with keywords alone binds: the i-th parameter is the keyword ix[i] -/
def KB0 (K : PySem.W.Frag) (fd : FuncData) (ps ks : List Str) (ix : List Nat) : Prop :=
  ∀ (s : Shared) (ws : List Value), K.In s.heap → ws.length = ks.length → BindsTo s fd ⟨[], ks.zip ws⟩ (ps.zip (ix.filterMap fun i => ws[i]?))
/-- a def of the program, what is known of it -/
structure Df (P : Program) (w : World) (K : PySem.W.Frag) (mg : Str → Option Value) (base : Heap) (n : Str) (k : Nat) (ps : List Str) (sp : Sp) (kbs : List (List Str × List Nat) := []) : Prop where
  ex : ∃ f fd, FnOk P w K mg base (L2.CX P w) k f fd ps sp ∧ mg n = some (.ref f) ∧ PySem.W.keepIn K (.ref f) = true ∧ Binds K fd ps [] ∧
    ∀ q ∈ kbs, KB0 K fd ps q.1 q.2

section
variable {X : Cx} {p : Pm} {ρ ρ1 ρ2 ρ3 ρ4 : Rho} {a b c e : Expr} {es : List Expr} {ra rb rc r : Rs} {rs : List Rs} {pos pos' : Pos}
variable {K : PySem.W.Frag} {T : List (Addr × Str)} {φ : Nat → Option V} {w : Addr → Option Nat} {B H H0 : Hp} {σ : L2.St} {x y v : V} {vs : List V} {xs ys : List PyData} {q : Addr} {k1 k2 : Bool}
variable {C : Addr} {fl n : Str} {k : Nat} {ps : List Str} {kbs : List (List Str × List Nat)} {S : List PyData → Oc → Prop}

theorem rv_call {pp : Pos} (D : Df X.prog X.w X.K X.mg X.base n k ps (spP X.K p.T C fl S) kbs) (hr : Room k X.A) (ha : RA X p (e :: es) ρ (xs.map .da) ρ1) (hS : S xs (.ret r)) (hn : ∀ i, r ≠ .sl i := by exact fun _ h => nomatch h) (hg : Gl X n := by rfl)
    (hdb : (n == ("__debug__" : Str)) = false := by decide) (he : starEach (e :: es) X.env = (false, eval e X.env) :: starEach es X.env := by rfl) (hpl : (backTo pos (starEach es X.env)).any (·.1) = false := by rfl) :
    RV X p (.Call (.Name n pp) (e :: es) [] pos) ρ r ρ1 := by
  obtain ⟨f, fd, F, hm, hk, hb, _⟩ := D.ex
  obtain ⟨t, pt, et⟩ := ha
  refine ⟨_, pe_call (E := E0) F hr hg hm hk hb .nil passL pt hdb he hpl, fun σ H B w F0 Q k => et σ H B w F0 _ fun vs H1 B1 w1 s1 F1 i1 => ?_⟩
  show spP X.K p.T C fl S (vs ++ []) H1 Q E0
  rw [List.append_nil]
  refine ⟨xs, .ret r, B1, hS, F1.ext, F1.tabs, F1.nt, itvs_da i1, fun v H2 B2 w2 s2 e2 i2 => ?_⟩
  obtain ⟨s3, F3⟩ := F1.after s2 e2
  exact k v H2 B2 w1 (s1.trans s3) F3 ((i2.after F1 hn).back s1)
/-- .. with keywords alone -/
theorem valR_pick : ∀ {ix : List Nat} {vs : List V} {us : List Value}, Vals vs us → Vals (ix.filterMap fun i => vs[i]?) (ix.filterMap fun i => us[i]?)
  | [], _, _, _ => .nil
  | i :: ix, vs, us, d => by
    cases h : vs[i]? with
    | none =>
      have h' : us[i]? = none := by
        rw [List.getElem?_eq_none_iff] at h ⊢
        rw [← d.length]
        exact h
      rw [List.filterMap_cons_none h', List.filterMap_cons_none h]
      exact valR_pick d
    | some x =>
      obtain ⟨v, h1, h2⟩ := d.get h
      rw [List.filterMap_cons_some h1, List.filterMap_cons_some h]
      exact .cons h2 (valR_pick d)
def tCallK0 (sp : Sp) (ix : List Nat) (n : Nat) (E : XK) (tk : TA) : TE := fun σ H Q => tk σ H fun zs H2 => zs.length = n ∧ sp (ix.filterMap fun i => zs[i]?) H2 Q E
theorem pe_callK0 {CX : CXT} {f : Addr} {fd : FuncData} {ks : List Str} {sp : Sp} {E : XK} {kws : List Keyword} {tk : TA} {ix : List Nat} {pp : Pos}
    (F : FnOk X.prog X.w X.K X.mg X.base CX k f fd ps sp) (hr : Room k X.A) (hg : Gl X n) (hm : X.mg n = some (.ref f)) (hk : PySem.W.keepIn X.K (.ref f) = true) (hb : KB0 X.K fd ps ks ix) (hx : Passes CX X E)
    (hkw : PK X kws tk) (hall : (backToKw pos (keywordEach kws X.env)).all (·.1.isSome) = true := by rfl) (hks : (backToKw pos (keywordEach kws X.env)).filterMap (·.1) = ks := by rfl)
    (hdb : (n == ("__debug__" : Str)) = false := by decide) (hpl : ((backTo pos (starEach [] X.env)).any (·.1) || (backToKw pos (keywordEach kws X.env)).any (·.1.isNone)) = false := by rfl) :
    PE X (.Call (.Name n pp) [] kws pos) (tCallK0 sp ix ks.length E tk) := by
  refine ⟨fun pins s σ H Q I h => ?_⟩
  refine wpAny_Call_Name_kw (ld_glob I hg hm ?_ hdb)
  refine PySem.W.callWith_KW0 (h₀ := X.base) I.ok.mod.kin hk hall (thn (hkw.run pos pins s σ H _ I h) fun ws s2 ⟨zs, H2, I2, rz, q1, q2⟩ => ⟨I2.kIn, ?_⟩) hpl
  rw [hks]
  have rel := valR_pick (ix := ix) rz
  show wpAny _ _ (call (.ref f) ([] ++ []) _) _ _ _
  refine wpAny_call (codeAny_mono (F.run X.A X.stack s2 H2 ⟨[], ks.zip ws⟩ _ _ Q E hr I2.env0 (hb s2 ws I2.kIn (by rw [← rz.length]; exact q1)) rel q2) fun r s' hq => ?_)
  cases r with
  | error u => exact hx pins σ H2 s2 u s' I2 hq
  | ok fw =>
    cases fw with
    | ret u => exact I2.after hq
    | next => exact False.elim hq
    | brk => exact False.elim hq
    | cont => exact False.elim hq
/-- keywords' values -/
def RK (X : Cx) (p : Pm) (kws : List Keyword) (ρ : Rho) (rs : List Rs) (ρ' : Rho) : Prop := ∃ t, PK X kws t ∧ EvA X.K p t ρ rs ρ'
theorem rk_nil : RK X p [] ρ [] ρ := ⟨_, pk_nil, fun σ H B w F Q k => k [] H B w Stp.refl F .nil⟩
theorem rk_cons {nm : Option Str} {kpos : Pos} {kws : List Keyword} (h : RV X p e ρ r ρ1) (t : RK X p kws ρ1 rs ρ2) : RK X p (⟨nm, e, kpos⟩ :: kws) ρ (r :: rs) ρ2 := by
  obtain ⟨te, pe, ee⟩ := h
  obtain ⟨ta, pa, ea⟩ := t
  exact ⟨_, pk_cons pe pa, fun σ H B w F Q k => ee σ H B w F _ fun v H1 B1 w1 s1 F1 i1 => ea σ H1 B1 w1 F1 _ fun vs H2 B2 w2 s2 F2 i2 => k _ H2 B2 w2 (s1.trans s2) F2 (.cons (i1.step s2) (i2.back s1))⟩
theorem dpa_pick : ∀ {ix : List Nat} {vs : List V} {xs : List PyData}, DpAll K B vs xs → DpAll K B (ix.filterMap fun i => vs[i]?) (ix.filterMap fun i => xs[i]?)
  | [], _, _, _ => .nil
  | i :: ix, vs, xs, d => by
    cases h : xs[i]? with
    | none =>
      have h' : vs[i]? = none := by
        rw [List.getElem?_eq_none_iff] at h ⊢
        rw [dpa_len d]
        exact h
      rw [List.filterMap_cons_none h', List.filterMap_cons_none h]
      exact dpa_pick d
    | some x =>
      obtain ⟨v, h1, h2⟩ := dpa_get d h
      rw [List.filterMap_cons_some h1, List.filterMap_cons_some h]
      exact .cons h2 (dpa_pick d)
theorem rv_callK {pp : Pos} {kws : List Keyword} (ks : List Str) (ix : List Nat) (D : Df X.prog X.w X.K X.mg X.base n k ps (spP X.K p.T C fl S) kbs) (hr : Room k X.A) (ha : RK X p kws ρ (xs.map .da) ρ1) (hS : S (ix.filterMap fun i => xs[i]?) (.ret r))
    (hix : (ks, ix) ∈ kbs := by simp) (hlk : xs.length = ks.length := by rfl) (hn : ∀ i, r ≠ .sl i := by exact fun _ h => nomatch h) (hg : Gl X n := by rfl)
    (hall : (backToKw pos (keywordEach kws X.env)).all (·.1.isSome) = true := by rfl) (hks : (backToKw pos (keywordEach kws X.env)).filterMap (·.1) = ks := by rfl)
    (hdb : (n == ("__debug__" : Str)) = false := by decide) (hpl : ((backTo pos (starEach [] X.env)).any (·.1) || (backToKw pos (keywordEach kws X.env)).any (·.1.isNone)) = false := by rfl) :
    RV X p (.Call (.Name n pp) [] kws pos) ρ r ρ1 := by
  obtain ⟨f, fd, F, hm, hk, _, hb⟩ := D.ex
  obtain ⟨t, pt, et⟩ := ha
  refine ⟨_, pe_callK0 (E := E0) F hr hg hm hk (hb _ hix) passL pt hall hks hdb hpl, fun σ H B w F0 Q k => ?_⟩
  refine et σ H B w F0 _ fun vs H1 B1 w1 s1 F1 i1 => ⟨by rw [dpa_len (itvs_da i1), hlk], ?_⟩
  refine ⟨_, .ret r, B1, hS, F1.ext, F1.tabs, F1.nt, dpa_pick (itvs_da i1), fun v H2 B2 w2 s2 e2 i2 => ?_⟩
  obtain ⟨s3, F3⟩ := F1.after s2 e2
  exact k v H2 B2 w1 (s1.trans s3) F3 ((i2.after F1 hn).back s1)
/-- an expression that raises -/
def RX (X : Cx) (p : Pm) (er : Er) (e : Expr) (ρ : Rho) (nm : Xn) : Prop := ∃ t, PE X e t ∧
  ∀ σ H B w, Rl X.K p.T p.φ B w H σ ρ → ∀ Q : VK, (∀ d H' B' w', Stp p.T w B H w' B' H' → Rl X.K p.T p.φ B' w' H' σ ρ → H' d = some (.xd [(er.fl, nm.val)]) → er.E (.ref er.C) (some d) H') → t σ H Q
theorem rx_call {pp : Pos} {er : Er} {nm : Xn} (D : Df X.prog X.w X.K X.mg X.base n k ps (spP X.K p.T er.C er.fl S) kbs) (hr : Room k X.A) (tk : Takes X (fun cls d _ H => er.E cls d H)) (ha : RA X p (e :: es) ρ (xs.map .da) ρ) (hS : S xs (.err nm)) (hg : Gl X n := by rfl)
    (hdb : (n == ("__debug__" : Str)) = false := by decide) (he : starEach (e :: es) X.env = (false, eval e X.env) :: starEach es X.env := by rfl) (hpl : (backTo pos (starEach es X.env)).any (·.1) = false := by rfl) :
    RX X p er (.Call (.Name n pp) (e :: es) [] pos) ρ nm := by
  obtain ⟨f, fd, F, hm, hk, hb, _⟩ := D.ex
  obtain ⟨t, pt, et⟩ := ha
  refine ⟨_, pe_call (E := er.E) F hr hg hm hk hb .nil (passes_call tk fun _ _ _ _ h => h) pt hdb he hpl, fun σ H B w F0 Q k => et σ H B w F0 _ fun vs H1 B1 w1 s1 F1 i1 => ?_⟩
  show spP X.K p.T er.C er.fl S (vs ++ []) H1 Q er.E
  rw [List.append_nil]
  refine ⟨xs, .err nm, B1, hS, F1.ext, F1.tabs, F1.nt, itvs_da i1, fun d H2 B2 w2 s2 e2 i2 => ?_⟩
  obtain ⟨s3, F3⟩ := F1.after s2 e2
  exact k d H2 B2 w1 (s1.trans s3) F3 i2
/-- a call whose first argument is the list of slot i -/
theorem rv_callO {pp : Pos} {zs zs' : List PyData} {So : List PyData → List PyData → Oc → List PyData → Prop} (i : Nat) (D : Df X.prog X.w X.K X.mg X.base n k ps (spO X.K p.T C fl So) kbs) (hr : Room k X.A) (ha : RA X p (e :: es) ρ (.sl i :: xs.map .da) ρ1) (hi : ρ1[i]? = some (oo zs) := by rfl)
    (hS : So zs xs (.ret r) zs') (hn : ∀ i, r ≠ .sl i := by exact fun _ h => nomatch h) (hg : Gl X n := by rfl)
    (hdb : (n == ("__debug__" : Str)) = false := by decide) (he : starEach (e :: es) X.env = (false, eval e X.env) :: starEach es X.env := by rfl) (hpl : (backTo pos (starEach es X.env)).any (·.1) = false := by rfl) (hE : ρ2 = ρ1.set i (oo zs') := by rfl) :
    RV X p (.Call (.Name n pp) (e :: es) [] pos) ρ r ρ2 := by
  subst hE
  obtain ⟨f, fd, F, hm, hk, hb, _⟩ := D.ex
  obtain ⟨t, pt, et⟩ := ha
  refine ⟨_, pe_call (E := E0) F hr hg hm hk hb .nil passL pt hdb he hpl, fun σ H B w F0 Q k => et σ H B w F0 _ fun vs H1 B1 w1 s1 F1 i1 => ?_⟩
  show spO X.K p.T C fl So (vs ++ []) H1 Q E0
  rw [List.append_nil]
  obtain ⟨l, ws, h1, h2, h3, h4, h5⟩ := F1.own i zs hi
  cases i1 with
  | @cons v0 _ us _ iv it =>
    have iv' : σ[i]? = some (some v0) := iv
    rw [h1] at iv'
    obtain rfl : V.ref l = v0 := Option.some.inj (Option.some.inj iv')
    refine ⟨l, us, zs, xs, .ret r, zs', B1, ws, rfl, hS, F1.ext, F1.tabs, F1.nt, itvs_da it, h3, h4, h5, fun v H2 B2 w2 ws' s2 e2 b2 l2 d2 i2 nl => ?_⟩
    have hw : ∀ a, w1 a = none → (fun a => if a = l then some 0 else none : Addr → Option Nat) a = none := fun a ha => by
      by_cases e : a = l
      · rw [e, h2] at ha
        cases ha
      · exact if_neg e
    have s3 : Stp p.T w1 B1 H1 w1 B2 H2 := ⟨s2.bb, fun a o h hwa n => s2.hh a o h (hw a hwa) n, s2.th, fun a h hb hwa => s2.nb a h hb (hw a hwa), s2.tb, s2.nt, fun a h => .inl h⟩
    have hlt : i < ρ1.length := by
      have := List.getElem?_eq_some_iff.mp hi
      exact this.1
    have F3 : Rl X.K p.T p.φ B2 w1 H2 σ (ρ1.set i (oo zs')) := by
      refine ⟨e2, by rw [List.length_set]; exact F1.len, fun a h => s2.th a (F1.wok a h), s2.tb F1.tabs, s2.nt F1.nt, F1.fix, fun j z h => ?_, fun j z h => ?_, fun j O h => ?_⟩
      · by_cases hj : j = i
        · subst hj
          rw [List.getElem?_set_self hlt] at h
          cases h
        · rw [List.getElem?_set_ne (Ne.symm hj)] at h
          obtain ⟨v, g1, g2⟩ := F1.dat j z h
          exact ⟨v, g1, dq_mono s2.bb g2⟩
      · by_cases hj : j = i
        · subst hj
          rw [List.getElem?_set_self hlt] at h
          cases h
          exact ⟨l, ws', h1, h2, b2, l2, d2⟩
        · rw [List.getElem?_set_ne (Ne.symm hj)] at h
          obtain ⟨m, us', g1, g2, g3, g4, g5⟩ := F1.own j z h
          have hml : m ≠ l := fun e => by
            rw [e, h2] at g2
            exact hj (Option.some.inj g2).symm
          have hwm : (fun a => if a = l then some 0 else none : Addr → Option Nat) m = none := if_neg hml
          exact ⟨m, us', g1, g2, s2.nb m (live_lst g4) g3 hwm, s2.hh m _ g4 hwm (fun ps z => by cases z), dpa_mono s2.bb g5⟩
      · by_cases hj : j = i
        · subst hj
          rw [List.getElem?_set_self hlt] at h
          cases h
        · rw [List.getElem?_set_ne (Ne.symm hj)] at h
          obtain ⟨m, us', g1, g2, g3, g4, g5, lv, nt⟩ := F1.objx h
          have hml : m ≠ l := fun e => by
            rw [e, h2] at g2
            exact hj (Option.some.inj g2).symm
          have hwm : (fun a => if a = l then some 0 else none : Addr → Option Nat) m = none := if_neg hml
          exact ⟨m, us', g1, g2, s2.nb m lv g3 hwm, s2.hh m _ g4 hwm nt, O.mono s2.bb g5⟩
    refine k v H2 B2 w1 (s1.trans s3) F3 (ItV.back ?_ s1)
    cases r with
    | da z => exact i2
    | li z =>
      obtain ⟨m, us', g1, g0, gw, g⟩ := i2
      exact ⟨m, us', g1, g0, w_none' F1 g0, g⟩
    | sl j => exact absurd rfl (hn j)

/-! ### targets -/
def GV (X : Cx) (p : Pm) (tg : Expr) (x : PyData) (ρ ρ' : Rho) (js : List Nat) : Prop := ∃ g, PG X tg g ∧
  ∀ σ H B w v, Rl X.K p.T p.φ B w H σ ρ → Dp X.K B v x → ∀ Q : L2.St → Hp → Prop, (∀ σ', Rl X.K p.T p.φ B w H σ' ρ' → σ'.length = σ.length ∧ (∀ j, j ∉ js → σ'[j]? = σ[j]?) → Q σ' H) → g v σ H Q
def GVs (X : Cx) (p : Pm) (tgs : List Expr) (xs : List PyData) (ρ ρ' : Rho) (js : List Nat) : Prop := ∃ g, PGs X tgs g ∧
  ∀ σ H B w vs, Rl X.K p.T p.φ B w H σ ρ → DpAll X.K B vs xs → ∀ Q : L2.St → Hp → Prop, (∀ σ', Rl X.K p.T p.φ B w H σ' ρ' → σ'.length = σ.length ∧ (∀ j, j ∉ js → σ'[j]? = σ[j]?) → Q σ' H) → g vs σ H Q
theorem rl_set {i : Nat} {z : PyData} (F : Rl K T φ B w H σ ρ) (hφ : φ i = none) (d : Dp K B v z) : Rl K T φ B w H (σ.set i (some v)) (ρ.set i (dd z)) := by
  refine ⟨F.ext, by rw [List.length_set, List.length_set]; exact F.len, F.wok, F.tabs, F.nt, fun j u h => ?_, fun j u h => ?_, fun j u h => ?_, fun j u h => ?_⟩
  · have hj : i ≠ j := fun e => by
      rw [← e, hφ] at h
      cases h
    rw [List.getElem?_set_ne hj]
    exact F.fix j u h
  · by_cases hj : j = i
    · subst hj
      have hlt : j < ρ.length := by
        have := (List.getElem?_eq_some_iff.mp h).1
        rwa [List.length_set] at this
      rw [List.getElem?_set_self hlt] at h
      cases h
      exact ⟨v, List.getElem?_set_self (by rw [← F.len]; exact hlt), d⟩
    · rw [List.getElem?_set_ne (Ne.symm hj)] at h ⊢
      exact F.dat j u h
  · by_cases hj : j = i
    · subst hj
      have hlt : j < ρ.length := by
        have := (List.getElem?_eq_some_iff.mp h).1
        rwa [List.length_set] at this
      rw [List.getElem?_set_self hlt] at h
      cases h
    · rw [List.getElem?_set_ne (Ne.symm hj)] at h ⊢
      exact F.own j u h
  · by_cases hj : j = i
    · subst hj
      have hlt : j < ρ.length := by
        have := (List.getElem?_eq_some_iff.mp h).1
        rwa [List.length_set] at this
      rw [List.getElem?_set_self hlt] at h
      cases h
    · rw [List.getElem?_set_ne (Ne.symm hj)] at h ⊢
      exact F.obj j u h
theorem gv_name (i : Nat) {z : PyData} (hN : X.N.Nodup) (hi : X.N[i]? = some n := by rfl) (hx : Loc X.env.scope n := by first | exact Or.inl rfl | exact Or.inr rfl) (hφ : p.φ i = none := by rfl)
    (hf : X.fn n = true ∨ X.env.scope.names.lookup n = some .local := by first | exact .inl rfl | exact .inr rfl) : GV X p (.Name n pos) z ρ (ρ.set i (dd z)) [i] :=
  ⟨_, pg_name hN hi hx hf, fun σ H B w v F d Q k => k _ (rl_set F hφ d) ⟨List.length_set, fun j hj => List.getElem?_set_ne (fun e => hj (by simp [e]))⟩⟩
theorem gvs_nil : GVs X p [] [] ρ ρ [] := ⟨_, pgs_nil, fun σ H B w vs F d Q k => by
  cases d
  exact ⟨rfl, k σ F ⟨rfl, fun _ _ => rfl⟩⟩⟩
theorem gvs_cons {tgs : List Expr} {z : PyData} {js ks : List Nat} (h : GV X p e z ρ ρ1 js) (t : GVs X p es xs ρ1 ρ2 ks) (hs : (assignEach (e :: es) X.env).map (·.2) = assign e X.env :: (assignEach es X.env).map (·.2) := by rfl) : GVs X p (e :: es) (z :: xs) ρ ρ2 (js ++ ks) := by
  obtain ⟨g, pg, eg⟩ := h
  obtain ⟨gs, pgs, egs⟩ := t
  refine ⟨_, pgs_cons pg pgs hs, fun σ H B w vs F d Q k => ?_⟩
  cases d with
  | cons d1 d2 =>
    exact ⟨_, _, rfl, eg σ H B w _ F d1 _ fun σ1 F1 n1 => egs σ1 H B w _ F1 d2 _ fun σ2 F2 n2 => k σ2 F2 ⟨n2.1.trans n1.1, fun j hj => (n2.2 j fun z => hj (List.mem_append_right _ z)).trans (n1.2 j fun z => hj (List.mem_append_left _ z))⟩⟩
theorem gv_tup {j : Nat} {js : List Nat} (hc : X.calm = true) (h : GVs X p es xs ρ ρ1 js) (hn : (assignEach es X.env).length = xs.length := by rfl) (hst : (assignEach es X.env).findIdx? (·.1) = none := by rfl) : GV X p (.Tuple es j pos) (.tuple xs) ρ ρ1 js := by
  obtain ⟨g, pg, eg⟩ := h
  refine ⟨_, pg_tup hc pg hn hst, fun σ H B w v F d Q k => ?_⟩
  obtain ⟨l, us, e, sq, d'⟩ := dp_tup d
  exact ⟨l, us, e, same_t F.ext sq, dpa_len d', eg σ H B w us F d' Q k⟩
end
end Dn

set_option Elab.async false
set_option linter.all false
set_option maxRecDepth 100000
set_option maxHeartbeats 1000000
namespace Dn
open PySem PySem.Spec PyProof.Rows L2

/-- what a statement does -/
inductive So where
  | nx (ρ : Rho)
  | rt (r : Rs) (ρ : Rho)
  | bk (ρ : Rho)
  | ct (ρ : Rho)
  | er (nm : Xn)
def SoG (K : PySem.W.Frag) (p : Pm) (er : Er) (σ : L2.St) (H B : Hp) (w : Addr → Option Nat) (D : Ends) : So → Prop
  | .nx ρ' => ∀ σ' H' B' w', Stp p.T w B H w' B' H' → Rl K p.T p.φ B' w' H' σ' ρ' → D.nx σ' H'
  | .bk ρ' => ∀ σ' H' B' w', Stp p.T w B H w' B' H' → Rl K p.T p.φ B' w' H' σ' ρ' → D.bk σ' H'
  | .ct ρ' => ∀ σ' H' B' w', Stp p.T w B H w' B' H' → Rl K p.T p.φ B' w' H' σ' ρ' → D.ct σ' H'
  | .rt r ρ' => ∀ v σ' H' B' w', Stp p.T w B H w' B' H' → Rl K p.T p.φ B' w' H' σ' ρ' → ItV K B' w' H' H σ' v r → D.rt v H'
  | .er nm => ∀ d H' B' w', Stp p.T w B H w' B' H' → Same B' H' → H' d = some (.xd [(er.fl, nm.val)]) → er.E (.ref er.C) (some d) H'
def EvB (K : PySem.W.Frag) (p : Pm) (er : Er) (t : TS) (ρ : Rho) (so : So) : Prop := ∀ σ H B w, Rl K p.T p.φ B w H σ ρ → ∀ D : Ends, SoG K p er σ H B w D so → t D σ H
def RS (X : Cx) (p : Pm) (er : Er) (st : Stmt) (ρ : Rho) (so : So) : Prop := ∃ t, PS X st t ∧ EvB X.K p er t ρ so
def RSs (X : Cx) (p : Pm) (er : Er) (sts : List Stmt) (ρ : Rho) (so : So) : Prop := ∃ t, PSs X sts t ∧ EvB X.K p er t ρ so

section
variable {X : Cx} {p : Pm} {er : Er} {so : So} {ρ ρ1 ρ2 ρ3 ρ4 : Rho} {a b c e tg iter : Expr} {es : List Expr} {st : Stmt} {sts body orelse : List Stmt} {ra rb rc r : Rs} {rs : List Rs} {pos pos' : Pos}
variable {K : PySem.W.Frag} {T : List (Addr × Str)} {φ : Nat → Option V} {w w1 : Addr → Option Nat} {B B1 H H0 H1 : Hp} {σ σ1 : L2.St} {x y v : V} {vs : List V} {xs ys : List PyData} {q : Addr} {k1 k2 : Bool} {n : Str} {js : List Nat} {D : Ends}

/-- the same wish, from a later place -/
theorem SoG.later (g : SoG K p er σ H B w D so) (s : Stp p.T w B H w1 B1 H1) : SoG K p er σ1 H1 B1 w1 D so := by
  cases so with
  | nx ρ' => exact fun σ' H' B' w' t F => g σ' H' B' w' (s.trans t) F
  | bk ρ' => exact fun σ' H' B' w' t F => g σ' H' B' w' (s.trans t) F
  | ct ρ' => exact fun σ' H' B' w' t F => g σ' H' B' w' (s.trans t) F
  | rt r ρ' => exact fun v σ' H' B' w' t F i => g v σ' H' B' w' (s.trans t) F (i.back s)
  | er nm => exact fun d H' B' w' t F i => g d H' B' w' (s.trans t) F i
theorem rss_nil : RSs X p er [] ρ (.nx ρ) := ⟨_, pss_nil, fun σ H B w F D k => k σ H B w Stp.refl F⟩
theorem rss_cons (h : RS X p er st ρ (.nx ρ1)) (t : RSs X p er sts ρ1 so) : RSs X p er (st :: sts) ρ so := by
  obtain ⟨t1, p1, e1⟩ := h
  obtain ⟨t2, p2, e2⟩ := t
  exact ⟨_, pss_cons p1 p2, fun σ H B w F D k => e1 σ H B w F { D with nx := t2 D } fun σ1 H1 B1 w1 s1 F1 => e2 σ1 H1 B1 w1 F1 D (k.later s1)⟩
/-- the statement ends the block -/
theorem rss_stop (h : RS X p er st ρ so) (hs : ∀ ρ', so ≠ .nx ρ' := by exact fun _ h => nomatch h) : RSs X p er (st :: sts) ρ so := by
  obtain ⟨t1, p1, e1⟩ := h
  refine ⟨_, pss_cons p1 pss_no, fun σ H B w F D k => e1 σ H B w F { D with nx := fun _ _ => False } ?_⟩
  cases so with
  | nx ρ' => exact absurd rfl (hs ρ')
  | bk ρ' => exact k
  | ct ρ' => exact k
  | rt r ρ' => exact k
  | er nm => exact k
theorem rss_one (h : RS X p er st ρ so) : RSs X p er [st] ρ so := by
  obtain ⟨t1, p1, e1⟩ := h
  exact ⟨_, pss_one p1, e1⟩
theorem rss_weak (h : RSs X p er sts ρ (.nx ρ1)) (wk : Wk ρ1 ρ2) : RSs X p er sts ρ (.nx ρ2) := by
  obtain ⟨t1, p1, e1⟩ := h
  exact ⟨_, p1, fun σ H B w F D k => e1 σ H B w F D fun σ' H' B' w' s F' => k σ' H' B' w' s (F'.weak wk)⟩
theorem rs_weak (h : RS X p er st ρ (.nx ρ1)) (wk : Wk ρ1 ρ2) : RS X p er st ρ (.nx ρ2) := by
  obtain ⟨t1, p1, e1⟩ := h
  exact ⟨_, p1, fun σ H B w F D k => e1 σ H B w F D fun σ' H' B' w' s F' => k σ' H' B' w' s (F'.weak wk)⟩
theorem rss_pre (h : RSs X p er sts ρ1 so) (wk : Wk ρ ρ1) : RSs X p er sts ρ so := by
  obtain ⟨t1, p1, e1⟩ := h
  exact ⟨_, p1, fun σ H B w F D k => e1 σ H B w (F.weak wk) D k⟩

/-! ### plain statements -/
theorem rs_set (i : Nat) {z : PyData} (h : RV X p e ρ (.da z) ρ1) (hN : X.N.Nodup) (hi : X.N[i]? = some n := by rfl) (hx : Loc X.env.scope n := by first | exact Or.inl rfl | exact Or.inr rfl) (hφ : p.φ i = none := by rfl)
    (hs : swapsWith e (some (.Name n pos')) pos.line X.env = pure false := by rfl) (hf : X.fn n = true ∨ X.env.scope.names.lookup n = some .local := by first | exact .inl rfl | exact .inr rfl) (hE : ρ2 = ρ1.set i (dd z) := by rfl) : RS X p er (.Assign [.Name n pos'] e pos) ρ (.nx ρ2) := by
  subst hE
  obtain ⟨t, pt, et⟩ := h
  exact ⟨_, ps_set hN hi hx pt hs hf, fun σ H B w F D k => et σ H B w F _ fun v H' B' w' s F' d => k _ H' B' w' s (rl_set F' hφ d)⟩
theorem rl_seto {i : Nat} {l : Addr} {us : List V} {zs : List PyData} (F : Rl K T φ B w H σ ρ) (hφ : φ i = none) (hw : w l = none) (hb : B l = none) (hl : H l = some (.lst us)) (d : DpAll K B us zs) :
    Rl K T φ B (fun a => if a = l then some i else w a) H (σ.set i (some (.ref l))) (ρ.set i (oo zs)) := by
  refine ⟨F.ext, by rw [List.length_set, List.length_set]; exact F.len, fun a h => ?_, F.tabs, F.nt, fun j u h => ?_, fun j u h => ?_, fun j u h => ?_, fun j u h => ?_⟩
  · by_cases ha : a = l
    · rw [ha]
      exact live_lst hl
    · rw [if_neg ha] at h
      exact F.wok a h
  · have hj : i ≠ j := fun e => by
      rw [← e, hφ] at h
      cases h
    rw [List.getElem?_set_ne hj]
    exact F.fix j u h
  · by_cases hj : j = i
    · subst hj
      have hlt : j < ρ.length := by
        have := (List.getElem?_eq_some_iff.mp h).1
        rwa [List.length_set] at this
      rw [List.getElem?_set_self hlt] at h
      cases h
    · rw [List.getElem?_set_ne (Ne.symm hj)] at h ⊢
      exact F.dat j u h
  · by_cases hj : j = i
    · subst hj
      have hlt : j < ρ.length := by
        have := (List.getElem?_eq_some_iff.mp h).1
        rwa [List.length_set] at this
      rw [List.getElem?_set_self hlt] at h
      cases h
      exact ⟨l, us, List.getElem?_set_self (by rw [← F.len]; exact hlt), if_pos rfl, hb, hl, d⟩
    · rw [List.getElem?_set_ne (Ne.symm hj)] at h ⊢
      obtain ⟨m, us', g1, g2, g3, g4, g5⟩ := F.own j u h
      have hml : m ≠ l := fun e => by
        rw [e, hw] at g2
        cases g2
      exact ⟨m, us', g1, by rw [if_neg hml]; exact g2, g3, g4, g5⟩
  · by_cases hj : j = i
    · subst hj
      have hlt : j < ρ.length := by
        have := (List.getElem?_eq_some_iff.mp h).1
        rwa [List.length_set] at this
      rw [List.getElem?_set_self hlt] at h
      cases h
    · rw [List.getElem?_set_ne (Ne.symm hj)] at h ⊢
      obtain ⟨m, us', g1, g2, g3, g4, g5⟩ := F.obj j u h
      have hml : m ≠ l := fun e => by
        rw [e, hw] at g2
        cases g2
      exact ⟨m, us', g1, by rw [if_neg hml]; exact g2, g3, g4, g5⟩
theorem rs_setL (i : Nat) {zs : List PyData} (h : RV X p e ρ (.li zs) ρ1) (hN : X.N.Nodup) (hi : X.N[i]? = some n := by rfl) (hx : Loc X.env.scope n := by first | exact Or.inl rfl | exact Or.inr rfl) (hφ : p.φ i = none := by rfl)
    (hs : swapsWith e (some (.Name n pos')) pos.line X.env = pure false := by rfl) (hf : X.fn n = true ∨ X.env.scope.names.lookup n = some .local := by first | exact .inl rfl | exact .inr rfl) (hE : ρ2 = ρ1.set i (oo zs) := by rfl) : RS X p er (.Assign [.Name n pos'] e pos) ρ (.nx ρ2) := by
  subst hE
  obtain ⟨t, pt, et⟩ := h
  refine ⟨_, ps_set hN hi hx pt hs hf, fun σ H B w F D k => et σ H B w F _ fun v H' B' w' s F' i1 => ?_⟩
  obtain ⟨l, us, rfl, h0, hw, hb, hl, d⟩ := i1
  refine k _ H' B' _ ⟨s.bb, s.hh, s.th, s.nb, s.tb, s.nt, fun a h => ?_⟩ (rl_seto F' hφ hw hb hl d)
  by_cases ha : a = l
  · rw [ha]
    exact .inr h0
  · rw [if_neg ha] at h
    exact s.ww a h
theorem rs_asg {z : PyData} (h : RV X p e ρ (.da z) ρ1) (g : GV X p tg z ρ1 ρ2 js) (hs : swapsWithSole [tg] e pos.line X.env = pure false := by rfl) (hw : swappedStores [tg] e X.env = pure none := by rfl)
    (h1 : (assignEach [tg] X.env).map (·.2) = [assign tg X.env] := by rfl) : RS X p er (.Assign [tg] e pos) ρ (.nx ρ2) := by
  obtain ⟨t, pt, et⟩ := h
  obtain ⟨g, pg, eg⟩ := g
  exact ⟨_, ps_asg pt pg hs hw h1, fun σ H B w F D k => et σ H B w F _ fun v H' B' w' s F' d => eg σ H' B' w' v F' d _ fun σ' F2 _ => k σ' H' B' w' s F2⟩
def ofRs : Rs → Option Dt
  | .da z => dd z
  | .li zs => oo zs
  | .sl _ => none
/-- what one name takes -/
theorem rl_put {i : Nat} {w0 : Addr → Option Nat} {B0 Hs : Hp} (F : Rl K T φ B w H σ ρ) (s : Stp T w0 B0 Hs w B H) (it : ItV K B w H Hs σ1 v r) (hφ : φ i = none) (hr : ∀ j, r ≠ .sl j) :
    ∃ w2, Stp T w0 B0 Hs w2 B H ∧ Rl K T φ B w2 H (σ.set i (some v)) (ρ.set i (ofRs r)) ∧ ∀ a, w2 a = w a ∨ (v = .ref a ∧ ∃ zs, r = .li zs) := by
  cases r with
  | da z => exact ⟨w, s, rl_set F hφ it, fun a => .inl rfl⟩
  | li zs =>
    obtain ⟨l, us, rfl, h0, hw, hb, hl, d⟩ := it
    refine ⟨_, ⟨s.bb, s.hh, s.th, s.nb, s.tb, s.nt, fun a h => ?_⟩, rl_seto F hφ hw hb hl d, fun a => ?_⟩
    · by_cases ha : a = l
      · rw [ha]
        exact .inr h0
      · rw [if_neg ha] at h
        exact s.ww a h
    · by_cases ha : a = l
      · exact .inr ⟨by rw [ha], zs, rfl⟩
      · exact .inl (if_neg ha)
  | sl j => exact absurd rfl (hr j)
/-- a, b = e1, e2 -/
theorem rs_par (i j : Nat) {m : Str} {px py pt : Pos} {kt k2 pt2} {ra rb : Rs} (ha : RV X p a ρ ra ρ1) (hb : RV X p b ρ1 rb ρ2) (hc : X.calm = true) (hN : X.N.Nodup) (hra : ∀ j, ra ≠ .sl j := by exact fun _ h => nomatch h) (hrb : ∀ j, rb ≠ .sl j := by exact fun _ h => nomatch h)
    (hi : X.N[i]? = some n := by rfl) (hj : X.N[j]? = some m := by rfl) (hij : i ≠ j := by decide)
    (hx : X.env.scope.names.lookup n = some .local := by rfl) (hy : X.env.scope.names.lookup m = some .local := by rfl) (hφ : p.φ i = none := by rfl) (hφ' : p.φ j = none := by rfl)
    (hw : swappedStores [.Tuple [.Name n px, .Name m py] kt pt] (.Tuple [a, b] k2 pt2) X.env = pure (some [n, m]) := by rfl)
    (hs : swapsWithSole [.Tuple [.Name n px, .Name m py] kt pt] (.Tuple [a, b] k2 pt2) pos.line X.env = pure false := by rfl)
    (h1 : starEach [a, b] X.env = (false, eval a X.env) :: starEach [b] X.env := by rfl) (h2 : starEach [b] X.env = (false, eval b X.env) :: starEach [] X.env := by rfl) (hE : ρ3 = (ρ2.set i (ofRs ra)).set j (ofRs rb) := by rfl) :
    RS X p er (.Assign [.Tuple [.Name n px, .Name m py] kt pt] (.Tuple [a, b] k2 pt2) pos) ρ (.nx ρ3) := by
  subst hE
  obtain ⟨ta, pa, ea⟩ := ha
  obtain ⟨tb, pb, eb⟩ := hb
  refine ⟨_, ps_par hc hN hi hj hij hx hy (pa_cons pa (pa_cons pb pa_nil h2) h1) hw hs, fun σ H B w F D k => ea σ H B w F _ fun v H1 B1 w1 s1 F1 i1 => eb σ H1 B1 w1 F1 _ fun u H2 B2 w2 s2 F2 i2 => ?_⟩
  refine ⟨v, u, rfl, ?_⟩
  have s12 := s1.trans s2
  obtain ⟨w3, s3, F3, hw3⟩ := rl_put F2 s12 (i1.step s2) hφ hra
  have i2' : ItV X.K B2 w3 H2 H σ u rb := by
    cases rb with
    | da z => exact i2
    | li zs =>
      obtain ⟨l, us, rfl, h0, hw, g⟩ := i2.back s1 |> fun z => z
      refine ⟨l, us, rfl, h0, ?_, g⟩
      rcases hw3 l with e | ⟨e, ys, er⟩
      · rw [e]
        exact hw
      · exfalso
        subst e er
        obtain ⟨l', us', e', h0', _⟩ := i2
        cases e'
        obtain ⟨l2, us2, e2, _, _, _, hl2, _⟩ := i1
        cases e2
        exact h0' (live_lst hl2)
    | sl j => exact absurd rfl (hrb j)
  obtain ⟨w4, s4, F4, _⟩ := rl_put F3 s3 i2' hφ' hrb
  exact k _ H2 B2 w4 s4 F4
theorem rs_if (hc : RT X p c ρ k1 ρ1) (h1 : k1 = true → RSs X p er body ρ1 so) (h2 : k1 = false → RSs X p er orelse ρ1 so) : RS X p er (.If c body orelse pos) ρ so := by
  obtain ⟨t, pt, et⟩ := hc
  cases k1 with
  | true =>
    obtain ⟨u, pu, eu⟩ := h1 rfl
    refine ⟨_, ps_if pt pu pss_no, fun σ H B w F D k => et σ H B w F _ fun H1 B1 w1 s1 F1 => ?_⟩
    rw [if_pos rfl]
    exact eu σ H1 B1 w1 F1 D (k.later s1)
  | false =>
    obtain ⟨u, pu, eu⟩ := h2 rfl
    refine ⟨_, ps_if pt pss_no pu, fun σ H B w F D k => et σ H B w F _ fun H1 B1 w1 s1 F1 => ?_⟩
    rw [if_neg (by decide)]
    exact eu σ H1 B1 w1 F1 D (k.later s1)
theorem rs_ret (h : RV X p e ρ r ρ1) : RS X p er (.Return (some e) pos) ρ (.rt r ρ1) := by
  obtain ⟨t, pt, et⟩ := h
  exact ⟨_, ps_ret pt, fun σ H B w F D k => et σ H B w F _ fun v H' B' w' s F' d => k v σ H' B' w' s F' d⟩
theorem rs_expr (h : RV X p e ρ r ρ1) (hs : swapsWith e none pos.line X.env = pure false := by rfl) : RS X p er (.Expr e pos) ρ (.nx ρ1) := by
  obtain ⟨t, pt, et⟩ := h
  exact ⟨_, ps_expr pt hs, fun σ H B w F D k => et σ H B w F _ fun v H' B' w' s F' d => k σ H' B' w' s F'⟩
theorem rs_exprX {nm : Xn} (h : RX X p er e ρ nm) (hs : swapsWith e none pos.line X.env = pure false := by rfl) : RS X p er (.Expr e pos) ρ (.er nm) := by
  obtain ⟨t, pt, et⟩ := h
  exact ⟨_, ps_expr pt hs, fun σ H B w F D k => et σ H B w F _ fun d H' B' w' s F' h => k d H' B' w' s F'.ext h⟩
theorem rs_break : RS X p er (.Break pos) ρ (.bk ρ) := ⟨_, ps_break, fun σ H B w F D k => k σ H B w Stp.refl F⟩
theorem rs_cont : RS X p er (.Continue pos) ρ (.ct ρ) := ⟨_, ps_continue, fun σ H B w F D k => k σ H B w Stp.refl F⟩
/-- the list of a slot is settled -/
theorem rl_settle0 {i : Nat} {zs : List PyData} {l : Addr} {us : List V} (F : Rl K T φ B w H σ ρ) (hi : ρ[i]? = some (oo zs)) (h1 : σ[i]? = some (some (.ref l))) (h2 : w l = some i) (h3 : B l = none) (h4 : H l = some (.lst us)) (h5 : DpAll K B us zs) : Stp T w B H (fun a => if a = l then none else w a) (upd B l (.lst us)) H ∧ Rl K T φ (upd B l (.lst us)) (fun a => if a = l then none else w a) H σ (ρ.set i (dd (.list zs))) := by
  have sB : Same B (upd B l (.lst us)) := same_new h3
  have hnt : (∀ a ps, B a ≠ some (.tbl ps)) → ∀ a ps, upd B l (.lst us) a ≠ some (.tbl ps) := fun t a ps => by
    by_cases ha : a = l
    · rw [ha, upd_same]
      exact fun z => by cases z
    · rw [upd_ne ha]
      exact t a ps
  refine ⟨⟨sB, fun a o h _ _ => h, fun a h => h, fun a h hb hw => ?_, fun t => t, hnt, fun a h => ?_⟩, ⟨fun a u e => ?_, by rw [List.length_set]; exact F.len, fun a h => ?_, F.tabs, hnt F.nt, F.fix, fun j z h => ?_, fun j z h => ?_, fun j O h => ?_⟩⟩
  · have : a ≠ l := fun e => by
      rw [e, h2] at hw
      cases hw
    rw [upd_ne this]
    exact hb
  · by_cases ha : a = l
    · rw [if_pos ha] at h
      exact absurd rfl h
    · rw [if_neg ha] at h
      exact .inl h
  · by_cases ha : a = l
    · rw [ha, upd_same] at e
      rw [ha, h4]
      exact e
    · rw [upd_ne ha] at e
      exact F.ext a u e
  · by_cases ha : a = l
    · rw [if_pos ha] at h
      exact absurd rfl h
    · rw [if_neg ha] at h
      exact F.wok a h
  · by_cases hj : j = i
    · subst hj
      have hlt : j < ρ.length := (List.getElem?_eq_some_iff.mp hi).1
      rw [List.getElem?_set_self hlt] at h
      cases h
      exact ⟨_, h1, .lst (.inl (.inl upd_same)) (dpa_mono sB h5)⟩
    · rw [List.getElem?_set_ne (Ne.symm hj)] at h
      obtain ⟨v, g1, g2⟩ := F.dat j z h
      exact ⟨v, g1, dq_mono sB g2⟩
  · by_cases hj : j = i
    · subst hj
      have hlt : j < ρ.length := (List.getElem?_eq_some_iff.mp hi).1
      rw [List.getElem?_set_self hlt] at h
      cases h
    · rw [List.getElem?_set_ne (Ne.symm hj)] at h
      obtain ⟨m, us', g1, g2, g3, g4, g5⟩ := F.own j z h
      have hml : m ≠ l := fun e => by
        rw [e, h2] at g2
        exact hj (Option.some.inj g2).symm
      exact ⟨m, us', g1, by rw [if_neg hml]; exact g2, by rw [upd_ne hml]; exact g3, g4, dpa_mono sB g5⟩
  · by_cases hj : j = i
    · subst hj
      have hlt : j < ρ.length := (List.getElem?_eq_some_iff.mp hi).1
      rw [List.getElem?_set_self hlt] at h
      cases h
    · rw [List.getElem?_set_ne (Ne.symm hj)] at h
      obtain ⟨m, us', g1, g2, g3, g4, g5⟩ := F.obj j O h
      have hml : m ≠ l := fun e => by
        rw [e, h2] at g2
        exact hj (Option.some.inj g2).symm
      exact ⟨m, us', g1, by rw [if_neg hml]; exact g2, by rw [upd_ne hml]; exact g3, g4, O.mono sB g5⟩
theorem rl_settle {i : Nat} {zs : List PyData} (F : Rl K T φ B w H σ ρ) (hi : ρ[i]? = some (oo zs)) : ∃ B' w', Stp T w B H w' B' H ∧ Rl K T φ B' w' H σ (ρ.set i (dd (.list zs))) := by
  obtain ⟨l, us, h1, h2, h3, h4, h5⟩ := F.own i zs hi
  exact ⟨_, _, rl_settle0 F hi h1 h2 h3 h4 h5⟩
theorem rss_settle (i : Nat) {zs : List PyData} (hi : ρ[i]? = some (oo zs)) (h : RSs X p er sts (ρ.set i (dd (.list zs))) so) : RSs X p er sts ρ so := by
  obtain ⟨t, pt, et⟩ := h
  refine ⟨t, pt, fun σ H B w F D k => ?_⟩
  obtain ⟨B', w', s, F'⟩ := rl_settle F hi
  exact et σ H B' w' F' D (k.later s)
/-- a list of a slot is changed -/
theorem rl_mut {i : Nat} {l : Addr} {us' : List V} {zs zs' : List PyData} (F : Rl K T φ B w H σ ρ) (hi : ρ[i]? = some (oo zs)) (hσ : σ[i]? = some (some (.ref l))) (d : DpAll K B us' zs') :
    Stp T w B H w B (upd H l (.lst us')) ∧ Rl K T φ B w (upd H l (.lst us')) σ (ρ.set i (oo zs')) := by
  obtain ⟨l', us0, h1, h2, h3, h4, h5⟩ := F.own i zs hi
  rw [h1] at hσ
  obtain rfl : l' = l := V.ref.inj (Option.some.inj (Option.some.inj hσ))
  have hlt : i < ρ.length := (List.getElem?_eq_some_iff.mp hi).1
  have wl : ∀ a, w a = none → a ≠ l' := fun a h e => by
    rw [e, h2] at h
    cases h
  have hlive : ∀ a, Live H a → Live (upd H l' (.lst us')) a := fun a h => by
    by_cases ha : a = l'
    · rw [ha]
      exact live_lst upd_same
    · obtain ⟨o, h, n⟩ := h
      exact ⟨o, by rw [upd_ne ha]; exact h, n⟩
  have htab : LamX.Tabs T H → LamX.Tabs T (upd H l' (.lst us')) := fun t => ?_
  refine ⟨⟨Same.refl B, fun a o h hw _ => by rw [upd_ne (wl a hw)]; exact h, hlive, fun a h hb _ => hb, htab, fun t => t, fun a h => .inl h⟩, ⟨fun a u e => ?_, by rw [List.length_set]; exact F.len, fun a h => hlive a (F.wok a h), htab F.tabs, F.nt, F.fix, fun j z h => ?_, fun j z h => ?_, fun j O h => ?_⟩⟩
  rotate_right
  · intro pp hp
    obtain ⟨ps, h1, h2, h3⟩ := t pp hp
    refine ⟨ps, ?_, h2, fun pos cv hc => ?_⟩
    · rw [upd_ne (fun e => by rw [e, h4] at h1; cases h1)]
      exact h1
    · obtain ⟨c, e1, e2⟩ := h3 pos cv hc
      refine ⟨c, e1, ?_⟩
      rw [upd_ne (fun e => by rw [e, h4] at e2; cases e2)]
      exact e2
  · have : a ≠ l' := fun z => by
      rw [z, h3] at e
      cases e
    rw [upd_ne this]
    exact F.ext a u e
  · by_cases hj : j = i
    · subst hj
      rw [List.getElem?_set_self hlt] at h
      cases h
    · rw [List.getElem?_set_ne (Ne.symm hj)] at h
      exact F.dat j z h
  · by_cases hj : j = i
    · subst hj
      rw [List.getElem?_set_self hlt] at h
      cases h
      exact ⟨l', us', h1, h2, h3, upd_same, d⟩
    · rw [List.getElem?_set_ne (Ne.symm hj)] at h
      obtain ⟨m, us2, g1, g2, g3, g4, g5⟩ := F.own j z h
      have hml : m ≠ l' := fun e => by
        rw [e, h2] at g2
        exact hj (Option.some.inj g2).symm
      exact ⟨m, us2, g1, g2, g3, by rw [upd_ne hml]; exact g4, g5⟩
  · by_cases hj : j = i
    · subst hj
      rw [List.getElem?_set_self hlt] at h
      cases h
    · rw [List.getElem?_set_ne (Ne.symm hj)] at h
      obtain ⟨m, us2, g1, g2, g3, g4, g5⟩ := F.obj j O h
      have hml : m ≠ l' := fun e => by
        rw [e, h2] at g2
        exact hj (Option.some.inj g2).symm
      exact ⟨m, us2, g1, g2, g3, by rw [upd_ne hml]; exact g4, g5⟩
end
end Dn

set_option Elab.async false
set_option linter.all false
set_option maxRecDepth 100000
set_option maxHeartbeats 1000000
namespace Dn
open PySem PySem.Spec PyProof.Rows L2

section
variable {X : Cx} {p : Pm} {er : Er} {so so' : So} {ρ ρ1 ρ2 ρ3 ρ4 : Rho} {a b c e tg iter elt : Expr} {es : List Expr} {st : Stmt} {sts body orelse : List Stmt} {ra rb rc r : Rs} {rs : List Rs} {pos pos' pos2 : Pos}
variable {K : PySem.W.Frag} {T : List (Addr × Str)} {φ : Nat → Option V} {w w1 : Addr → Option Nat} {B B1 H H0 H1 : Hp} {σ σ1 : L2.St} {x y v : V} {vs : List V} {xs ys zs : List PyData} {q : Addr} {k1 k2 : Bool} {n : Str} {js : List Nat} {D : Ends} {i j : Nat} {z u : PyData}

/-! ### lists changed -/
/-- o[i] = e, o a slot's list -/
theorem rs_item {k : Int} (h : RV X p e ρ (.da z) ρ1) (ho : RV X p a ρ1 (.sl i) ρ2) (hi : RV X p b ρ2 (.da (.int k)) ρ3) (hl : ρ3[i]? = some (oo xs)) (hk : ixN xs.length k = some j)
    (ha : ∀ v, assign (.Subscript a b pos2) X.env v = (do
      let ov ← holding [v] (eval a X.env)
      let iv ← holding [v, ov] (eval b X.env)
      standAt pos2
      holding [v, ov, iv] (setItem ov iv v)
      release [v, ov, iv] []) := by intro _; rfl)
    (hs : swapsWithSole [.Subscript a b pos2] e pos.line X.env = pure false := by rfl) (hw : swappedStores [.Subscript a b pos2] e X.env = pure none := by rfl)
    (h1 : (assignEach [.Subscript a b pos2] X.env).map (·.2) = [assign (.Subscript a b pos2) X.env] := by rfl) (hE : ρ4 = ρ3.set i (oo (xs.set j z)) := by rfl) : RS X p er (.Assign [.Subscript a b pos2] e pos) ρ (.nx ρ4) := by
  subst hE
  obtain ⟨te, pe, ee⟩ := h
  obtain ⟨ta, pa, ea⟩ := ho
  obtain ⟨tb, pb, eb⟩ := hi
  refine ⟨_, ps_asg pe (pg_sub pa pb set_list ha) hs hw h1, fun σ H B w F D k0 => ee σ H B w F _ fun v H1 B1 w1 s1 F1 i1 => ea σ H1 B1 w1 F1 _ fun o H2 B2 w2 s2 F2 i2 => eb σ H2 B2 w2 F2 _ fun ki H3 B3 w3 s3 F3 i3 => ?_⟩
  obtain ⟨l, us, h1, h2, h3, h4, h5⟩ := F3.own i xs hl
  have i2' : σ[i]? = some (some o) := i2
  rw [h1] at i2'
  obtain rfl : V.ref l = o := Option.some.inj (Option.some.inj i2')
  have dv : Dp X.K B3 v z := dp_mono (s2.trans s3).bb i1
  obtain ⟨s4, F4⟩ := rl_mut F3 hl h1 (dpa_set j h5 dv)
  exact ⟨l, us, k, j, rfl, dp_int i3, h4, by rw [dpa_len h5]; exact hk, k0 _ _ _ _ (((s1.trans s2).trans s3).trans s4) F4⟩
/-- o.append(e) -/
theorem rs_append {apos cpos : Pos} (ho : RV X p a ρ (.sl i) ρ1) (h : RV X p e ρ1 (.da z) ρ2) (hl : ρ2[i]? = some (oo xs)) (hz : xs.length < 100000) (hl1 : ∃ ys, ρ1[i]? = some (oo ys))
    (hbase : attributeBase a "append" X.env (eval a X.env) = eval a X.env := by rfl)
    (hfew : ((backTo cpos (starEach [e] X.env)).all (fun x => !x.1) && (backToKw cpos (keywordEach [] X.env)).all (fun x => x.1.isSome)
      && decide ([e].length + ([] : List Keyword).length + (if ([] : List Keyword).isEmpty then 0 else 1) < 30)) = true := by rfl)
    (hline : (apos.endLine == cpos.line) = true := by rfl) (hs : starEach [e] X.env = (false, eval e X.env) :: starEach [] X.env := by rfl) (hplain : (backTo cpos (starEach [] X.env)).any (·.1) = false := by rfl)
    (hsw : swapsWith (.Call (.Attribute a "append" apos) [e] [] cpos) none pos.line X.env = pure false := by rfl) (hE : ρ3 = ρ2.set i (oo (xs ++ [z])) := by rfl) :
    RS X p er (.Expr (.Call (.Attribute a "append" apos) [e] [] cpos) pos) ρ (.nx ρ3) := by
  subst hE
  obtain ⟨ta, pa, ea⟩ := ho
  obtain ⟨te, pe, ee⟩ := h
  obtain ⟨ys, hys⟩ := hl1
  refine ⟨_, ps_expr (pe_bm PySem.F.plainAttrs_list PySem.F.slot_list_append PySem.F.type_list_append mt_append pa (pa_cons pe pa_nil hs) hbase hfew hline hs hplain) hsw, fun σ H B w F D k0 => ea σ H B w F _ fun o H1 B1 w1 s1 F1 i1 => ?_⟩
  have i1' : σ[i]? = some (some o) := i1
  obtain ⟨l, us0, g1, g2, g3, g4, g5⟩ := F1.own i ys hys
  rw [g1] at i1'
  obtain rfl : V.ref l = o := Option.some.inj (Option.some.inj i1')
  refine ⟨.inl ⟨rfl, us0, .inl (.inl g4)⟩, ee σ H1 B1 w1 F1 _ fun v H2 B2 w2 s2 F2 i2 => ?_⟩
  obtain ⟨l', us, h1, h2, h3, h4, h5⟩ := F2.own i xs hl
  rw [g1] at h1
  obtain rfl : l = l' := V.ref.inj (Option.some.inj (Option.some.inj h1))
  obtain ⟨s4, F4⟩ := rl_mut F2 hl g1 (dpa_app h5 (.cons i2 .nil))
  exact ⟨l, us, v, rfl, rfl, h4, by rw [dpa_len h5]; exact Nat.lt_of_lt_of_le hz (by decide), k0 _ _ _ _ ((s1.trans s2).trans s4) F4⟩
/-- n += e, ints -/
theorem rs_augI (i : Nat) {f : Int → Int → Int} {op : Operator} {k m : Int} (h : RV X p e ρ (.da (.int m)) ρ1) (ho : PIp X op (ipI f)) (hρ : ρ[i]? = some (dd (.int k))) (hN : X.N.Nodup) (hi : X.N[i]? = some n := by rfl) (hx : Loc X.env.scope n := by first | exact Or.inl rfl | exact Or.inr rfl) (hφ : p.φ i = none := by rfl)
    (hf : X.fn n = true ∨ X.env.scope.names.lookup n = some .local := by first | exact .inl rfl | exact .inr rfl) (hE : ρ2 = ρ1.set i (dd (.int (f k m))) := by rfl) : RS X p er (.AugAssign (.Name n pos') op e pos) ρ (.nx ρ2) := by
  subst hE
  obtain ⟨te, pe, ee⟩ := h
  refine ⟨_, ps_aug hN hi hx pe ho hf, fun σ H B w F D k0 => ?_⟩
  obtain ⟨v, h1, h2⟩ := F.dat i _ hρ
  exact ⟨v, h1, ee σ H B w F _ fun v2 H1 B1 w1 s1 F1 i1 => ⟨k, m, dp_int h2, dp_int i1, k0 _ H1 B1 w1 s1 (rl_set F1 hφ (.int _))⟩⟩

/-! ### walks -/
/-- what comes at each turn -/
def WalkD (K : PySem.W.Frag) (J : It) (xs : List PyData) (B0 : Hp) : Prop := ∃ G Y, Walk J xs.length G Y ∧ (∀ B2 H2, Same B0 B2 → Same B2 H2 → G H2) ∧
  ∀ i H2 B2 v H3, Same B0 B2 → Same B2 H2 → i < xs.length → Y i H2 v H3 → ∃ x, xs[i]? = some x ∧ ((H3 = H2 ∧ Dp K B2 v x) ∨ (∃ q us ys, H2 q = none ∧ H3 = upd H2 q (.tup us) ∧ v = .ref q ∧ x = .tuple ys ∧ DpAll K B2 us ys) ∨ ∃ q1 us1 ys1 q us ys, H2 q1 = none ∧ upd H2 q1 (.tup us1) q = none ∧ H3 = upd (upd H2 q1 (.tup us1)) q (.tup us) ∧ v = .ref q ∧ x = .tuple ys ∧ DpAll K B2 us1 ys1 ∧ DpAll K (upd B2 q1 (.tup us1)) us ys)
def IV (X : Cx) (p : Pm) (tg iter : Expr) (ρ : Rho) (xs : List PyData) (ρ' : Rho) : Prop := ∃ wi, PI X tg iter wi ∧
  ∀ σ H B w, Rl X.K p.T p.φ B w H σ ρ → ∀ R : It → Hp → Prop, (∀ J H' B' w', Stp p.T w B H w' B' H' → Rl X.K p.T p.φ B' w' H' σ ρ' → WalkD X.K J xs B' → R J H') → wi σ H R
theorem iv_list (h : RV X p iter ρ (.da (.list xs)) ρ1) : IV X p tg iter ρ xs ρ1 := by
  obtain ⟨t, pt, et⟩ := h
  refine ⟨_, pi_list pt, fun σ H B w F R k => et σ H B w F _ fun v H' B' w' s F' d => ?_⟩
  obtain ⟨l, us, rfl, sq, du⟩ := dp_list d
  have hl := dpa_len du
  refine ⟨l, rfl, ⟨us, F'.ext.seq sq⟩, k _ H' B' w' s F' ⟨_, _, hl ▸ walk_list (xs := us), fun B2 H2 s1 s2 => s2.seq (s1.seq sq), fun i H2 B2 v H3 s1 s2 hi y => ?_⟩⟩
  obtain ⟨e, hx⟩ := y
  obtain ⟨z, h1, h2⟩ := dpa_get' du hx
  exact ⟨z, h1, .inl ⟨e, dp_mono s1 h2⟩⟩
theorem iv_tup (h : RV X p iter ρ (.da (.tuple xs)) ρ1) : IV X p tg iter ρ xs ρ1 := by
  obtain ⟨t, pt, et⟩ := h
  refine ⟨_, pi_tup pt, fun σ H B w F R k => et σ H B w F _ fun v H' B' w' s F' d => ?_⟩
  obtain ⟨l, us, rfl, sq, du⟩ := dp_tup d
  have hl := dpa_len du
  refine ⟨l, rfl, ⟨us, same_t F'.ext sq⟩, k _ H' B' w' s F' ⟨_, _, hl ▸ walk_tup (xs := us), fun B2 H2 s1 s2 => same_t s2 (same_t s1 sq), fun i H2 B2 v H3 s1 s2 hi y => ?_⟩⟩
  obtain ⟨e, hx⟩ := y
  obtain ⟨z, h1, h2⟩ := dpa_get' du hx
  exact ⟨z, h1, .inl ⟨e, dp_mono s1 h2⟩⟩
def rngD (lo : Int) (n : Nat) : List PyData := (List.range n).map fun i => .int (lo + (i : Nat))
theorem rngD_len (lo : Int) (n : Nat) : (rngD lo n).length = n := by unfold rngD; rw [List.length_map, List.length_range]
theorem rngD_get {lo : Int} {n i : Nat} (h : i < n) : (rngD lo n)[i]? = some (.int (lo + (i : Nat))) := by
  unfold rngD
  rw [List.getElem?_map, List.getElem?_range h]
  rfl
theorem walkd_rng {lo : Int} {n : Nat} : WalkD K (Itr lo n) (rngD lo n) B :=
  ⟨_, _, by rw [rngD_len]; exact walk_range, fun _ _ _ _ => trivial, fun i H2 B2 v H3 s1 s2 hi y => by
    rw [rngD_len] at hi
    obtain ⟨e, rfl⟩ := y
    exact ⟨_, rngD_get hi, .inl ⟨e, .int _⟩⟩⟩
theorem iv_range1 {pp : Pos} {k : Int} (hm : X.mg "range" = none) (h : RA X p [a] ρ [.da (.int k)] ρ1) (hk : -(2 ^ 62) ≤ k ∧ k < 2 ^ 62) (hg : Gl X "range" := by rfl) (hs : starEach [a] X.env = [(false, eval a X.env)] := by rfl) : IV X p tg (.Call (.Name "range" pp) [a] [] pos) ρ (rngD 0 k.toNat) ρ1 := by
  obtain ⟨t, pt, et⟩ := h
  refine ⟨_, pi_range1 hg hm pt hs, fun σ H B w F R k0 => et σ H B w F _ fun vs H' B' w' s F' i => ?_⟩
  obtain ⟨v, rfl, i1⟩ := itvs1 i
  exact ⟨k, by rw [dp_int i1], hk.1, hk.2, k0 _ H' B' w' s F' walkd_rng⟩
theorem iv_range2 {pp : Pos} {k m : Int} (hm : X.mg "range" = none) (h : RA X p [a, b] ρ [.da (.int k), .da (.int m)] ρ1) (hk : -(2 ^ 62) ≤ k ∧ k < 2 ^ 62 ∧ -(2 ^ 62) ≤ m ∧ m < 2 ^ 62) (hg : Gl X "range" := by rfl)
    (hs : starEach [a, b] X.env = [(false, eval a X.env), (false, eval b X.env)] := by rfl) (hs2 : starEach [b] X.env = [(false, eval b X.env)] := by rfl) : IV X p tg (.Call (.Name "range" pp) [a, b] [] pos) ρ (rngD k (m - k).toNat) ρ1 := by
  obtain ⟨t, pt, et⟩ := h
  refine ⟨_, pi_range2 hg hm pt hs hs2, fun σ H B w F R k0 => et σ H B w F _ fun vs H' B' w' s F' i => ?_⟩
  obtain ⟨v, u, rfl, i1, i2⟩ := itvs2 i
  exact ⟨k, m, by rw [dp_int i1, dp_int i2], hk, k0 _ H' B' w' s F' walkd_rng⟩
/-- pairs of two lists of data -/
def zipD (xs ys : List PyData) : List PyData := xs.zipWith (fun x y => .tuple [x, y]) ys
theorem zipD_len : (zipD xs ys).length = min xs.length ys.length := List.length_zipWith
theorem zipD_get {x y : PyData} (h1 : xs[i]? = some x) (h2 : ys[i]? = some y) : (zipD xs ys)[i]? = some (.tuple [x, y]) := by
  unfold zipD
  rw [List.getElem?_zipWith, h1, h2]
theorem walk_zipT {K : PySem.W.Frag} {a b : Addr} {xs ys : List V} {n : Nat} (hn : n = min xs.length ys.length) : Walk (RZ.ItzT K a b) n (fun H => SqT K H a xs ∧ SqT K H b ys) (YPair (fun i => xs[i]?) (fun i => ys[i]?)) where
  goes := fun i H hi h => ⟨xs, ys, _, _, h.1, h.2, List.getElem?_eq_getElem (by omega), List.getElem?_eq_getElem (by omega)⟩
  stops := fun H h => ⟨xs, ys, h.1, h.2, by omega⟩
  yields := fun i H x H' hi h y => by
    obtain ⟨T, x, y, e, hT, eH, h1, h2⟩ := y
    exact ⟨T, x, y, e, hT, eH, h1 _ h.1, h2 _ h.2⟩
theorem walkd_pair {J : It} {us ws : List V} {G : Hp → Prop} (w : Walk J (min us.length ws.length) G (YPair (fun i => us[i]?) (fun i => ws[i]?))) (hG : ∀ B2 H2, Same B B2 → Same B2 H2 → G H2) (d1 : DpAll K B us xs) (d2 : DpAll K B ws ys) : WalkD K J (zipD xs ys) B := by
  refine ⟨G, _, by rw [zipD_len, ← dpa_len d1, ← dpa_len d2]; exact w, hG, fun i H2 B2 v H3 s1 s2 hi y => ?_⟩
  obtain ⟨T, x, y, e, hT, eH, h1, h2⟩ := y
  obtain ⟨x', g1, g2⟩ := dpa_get' d1 h1
  obtain ⟨y', g3, g4⟩ := dpa_get' d2 h2
  exact ⟨_, zipD_get g1 g3, .inr (.inl ⟨T, _, _, hT, eH, e, rfl, .cons (dp_mono s1 g2) (.cons (dp_mono s1 g4) .nil)⟩)⟩
theorem iv_zipT {pp tpos : Pos} {elts : List Expr} {kk : Nat} (hm : X.mg "zip" = none) (h : RA X p [a, b] ρ [.da (.tuple xs), .da (.tuple ys)] ρ1) (hg : Gl X "zip" := by rfl)
    (hs : starEach [a, b] X.env = (false, eval a X.env) :: starEach [b] X.env := by rfl) (hpl : (backTo pos (starEach [b] X.env)).any (·.1) = false := by rfl) : IV X p (.Tuple elts kk tpos) (.Call (.Name "zip" pp) [a, b] [] pos) ρ (zipD xs ys) ρ1 := by
  obtain ⟨t, pt, et⟩ := h
  refine ⟨_, RZ.pi_zipA hg hm pt hs hpl, fun σ H B w F R k0 => et σ H B w F _ fun vs H' B' w' s F' i => ?_⟩
  obtain ⟨v, u, rfl, i1, i2⟩ := itvs2 i
  obtain ⟨l, us, rfl, sq1, d1⟩ := dp_tup i1
  obtain ⟨m, ws, rfl, sq2, d2⟩ := dp_tup i2
  exact ⟨l, m, us, ws, rfl, .inr ⟨same_t F'.ext sq1, same_t F'.ext sq2, k0 _ H' B' w' s F' (walkd_pair (walk_zipT rfl) (fun B2 H2 s1 s2 => ⟨same_t s2 (same_t s1 sq1), same_t s2 (same_t s1 sq2)⟩) d1 d2)⟩⟩
theorem iv_zipL {pp tpos : Pos} {elts : List Expr} {kk : Nat} (hm : X.mg "zip" = none) (h : RA X p [a, b] ρ [.da (.list xs), .da (.list ys)] ρ1) (hg : Gl X "zip" := by rfl)
    (hs : starEach [a, b] X.env = (false, eval a X.env) :: starEach [b] X.env := by rfl) (hpl : (backTo pos (starEach [b] X.env)).any (·.1) = false := by rfl) : IV X p (.Tuple elts kk tpos) (.Call (.Name "zip" pp) [a, b] [] pos) ρ (zipD xs ys) ρ1 := by
  obtain ⟨t, pt, et⟩ := h
  refine ⟨_, RZ.pi_zipA hg hm pt hs hpl, fun σ H B w F R k0 => et σ H B w F _ fun vs H' B' w' s F' i => ?_⟩
  obtain ⟨v, u, rfl, i1, i2⟩ := itvs2 i
  obtain ⟨l, us, rfl, sq1, d1⟩ := dp_list i1
  obtain ⟨m, ws, rfl, sq2, d2⟩ := dp_list i2
  exact ⟨l, m, us, ws, rfl, .inl ⟨F'.ext.seq sq1, F'.ext.seq sq2, k0 _ H' B' w' s F' (walkd_pair (walk_zip rfl) (fun B2 H2 s1 s2 => ⟨s2.seq (s1.seq sq1), s2.seq (s1.seq sq2)⟩) d1 d2)⟩⟩
end
end Dn

set_option Elab.async false
set_option linter.all false
set_option maxRecDepth 100000
set_option maxHeartbeats 1000000
namespace Dn
open PySem PySem.Spec PyProof.Rows L2

section
variable {X : Cx} {p : Pm} {er : Er} {so so' : So} {ρ ρ1 ρ2 ρ3 ρ4 : Rho} {a b c e tg iter elt : Expr} {es ifs : List Expr} {st : Stmt} {sts body orelse : List Stmt} {ra rb rc r : Rs} {rs : List Rs} {pos pos' pos2 : Pos}
variable {K : PySem.W.Frag} {T : List (Addr × Str)} {φ : Nat → Option V} {w w1 : Addr → Option Nat} {B B1 H H0 H1 : Hp} {σ σ1 : L2.St} {x y v : V} {vs : List V} {xs ys zs : List PyData} {q : Addr} {k1 k2 : Bool} {n : Str} {js : List Nat} {D : Ends} {i j : Nat} {z u : PyData}

/-! ### the weakest readings -/
def TB (X : Cx) (sts : List Stmt) : TS := fun D σ H => ∃ t, PSs X sts t ∧ t D σ H
theorem tb_ok : PSs X sts (TB X sts) := ⟨fun pins s σ H D I ⟨t, pt, h⟩ => pt.run pins s σ H D I h⟩
theorem rss_tb (h : RSs X p er sts ρ so) : EvB X.K p er (TB X sts) ρ so := by
  obtain ⟨t, pt, et⟩ := h
  exact fun σ H B w F D k => ⟨t, pt, et σ H B w F D k⟩
def TGc (X : Cx) (tg : Expr) : TG := fun v σ H Q => ∃ g, PG X tg g ∧ g v σ H Q
theorem tg_ok : PG X tg (TGc X tg) := ⟨fun pins s σ H v u Q I r ⟨g, pg, h⟩ => pg.run pins s σ H v u Q I r h⟩
def TTc (X : Cx) (e : Expr) : TT := fun σ H Q => ∃ t, PT X e t ∧ t σ H Q
theorem tt_ok : PT X e (TTc X e) := ⟨fun pins s σ H Q I ⟨t, pt, h⟩ => pt.run pins s σ H Q I h⟩
theorem rt_tt (h : RT X p e ρ k1 ρ1) : EvT X.K p (TTc X e) ρ k1 ρ1 := by
  obtain ⟨t, pt, et⟩ := h
  exact fun σ H B w F Q k => ⟨t, pt, et σ H B w F Q k⟩

/-- a turn's item -/
theorem walk_item {B0 : Hp} {Y : Nat → Hp → V → Hp → Prop} {H3 : Hp} (hY : ∀ i H2 B2 v H3, Same B0 B2 → Same B2 H2 → i < xs.length → Y i H2 v H3 → ∃ x, xs[i]? = some x ∧ ((H3 = H2 ∧ Dp K B2 v x) ∨ (∃ q us ys, H2 q = none ∧ H3 = upd H2 q (.tup us) ∧ v = .ref q ∧ x = .tuple ys ∧ DpAll K B2 us ys) ∨ ∃ q1 us1 ys1 q us ys, H2 q1 = none ∧ upd H2 q1 (.tup us1) q = none ∧ H3 = upd (upd H2 q1 (.tup us1)) q (.tup us) ∧ v = .ref q ∧ x = .tuple ys ∧ DpAll K B2 us1 ys1 ∧ DpAll K (upd B2 q1 (.tup us1)) us ys))
    (s : Same B0 B) (F : Rl K T φ B w H σ ρ) (hi : i < xs.length) (y : Y i H v H3) : ∃ B3 x, xs[i]? = some x ∧ Stp T w B H w B3 H3 ∧ Rl K T φ B3 w H3 σ ρ ∧ Dp K B3 v x := by
  obtain ⟨x, hx, hc⟩ := hY i H B v H3 s F.ext hi y
  rcases hc with ⟨rfl, d⟩ | ⟨q, us, ys, hq, rfl, rfl, rfl, d⟩ | ⟨q1, us1, ys1, q, us, ys, h1, hq, rfl, rfl, rfl, d1, d⟩
  · exact ⟨B, x, hx, Stp.refl, F, d⟩
  · obtain ⟨s4, F4, i4⟩ := new_tup (T := T) F hq d
    exact ⟨_, _, hx, s4, F4, i4⟩
  · obtain ⟨s3, F3, i3⟩ := new_tup (T := T) F h1 d1
    obtain ⟨s4, F4, i4⟩ := new_tup (T := T) F3 hq d
    exact ⟨_, _, hx, s3.trans s4, F4, i4⟩

/-! ### for -/
inductive LpOut : So → So → Prop
  | bk {ρ : Rho} : LpOut (.bk ρ) (.nx ρ)
  | rt {r : Rs} {ρ : Rho} : LpOut (.rt r ρ) (.rt r ρ)
  | er {nm : Xn} : LpOut (.er nm) (.er nm)
/-- the loop's first m turns go on; then it is at its end, or the next turn leaves it -/
theorem rs_forX (m : Nat) (inv : Nat → Rho) (h : IV X p tg iter ρ xs (inv 0)) (hp : PassesOwn (model X.prog X.w) X.A X.env X.xe) (hc : X.calm = true)
    (step : ∀ i x, i < m → xs[i]? = some x → ∃ ρ' js, GV X p tg x (inv i) ρ' js ∧ (RSs X p er body ρ' (.nx (inv (i + 1))) ∨ RSs X p er body ρ' (.ct (inv (i + 1)))))
    (fin : (m = xs.length ∧ so = .nx (inv m)) ∨ (∃ x, xs[m]? = some x ∧ ∃ ρ' js so', GV X p tg x (inv m) ρ' js ∧ RSs X p er body ρ' so' ∧ LpOut so' so))
    (hs : ∀ x, foldedSetIterable iter X.env x = pure x := by intro _; rfl) : RS X p er (.For tg iter body [] pos) ρ so := by
  obtain ⟨wi, pi, ei⟩ := h
  refine ⟨_, ps_for hp hc pi tg_ok tb_ok hs, fun σ H B w F D k => ei σ H B w F _ fun J H1 B1 w1 s1 F1 wd => ?_⟩
  obtain ⟨G, Y, wk, hG, hY⟩ := wd
  have hm : m ≤ xs.length := by
    rcases fin with ⟨e, _⟩ | ⟨x, hx, _⟩
    · omega
    · have := (List.getElem?_eq_some_iff.mp hx).1
      omega
  refine for_it wk (fun i σ2 H2 => i ≤ m ∧ ∃ B2 w2, Stp p.T w1 B1 H1 w2 B2 H2 ∧ Rl X.K p.T p.φ B2 w2 H2 σ2 (inv i)) ⟨Nat.zero_le _, B1, w1, Stp.refl, F1⟩ (fun i σ2 H2 hi ⟨_, B2, w2, s2, F2⟩ => hG B2 H2 s2.bb F2.ext) (fun i v σ2 H2 H3 hi ⟨hle, B2, w2, s2, F2⟩ y => ?_) (fun σ2 H2 ⟨hle, B2, w2, s2, F2⟩ => ?_)
  · obtain ⟨B3, x, hx, s3, F3, d3⟩ := walk_item (T := p.T) hY s2.bb F2 hi y
    by_cases hlt : i < m
    · obtain ⟨ρ', js, ⟨g, pg, eg⟩, hb⟩ := step i x hlt hx
      refine ⟨g, pg, eg σ2 H3 B3 w2 v F3 d3 _ fun σ4 F4 _ => ?_⟩
      rcases hb with hb | hb
      · exact rss_tb hb σ4 H3 B3 w2 F4 _ fun σ5 H5 B5 w5 s5 F5 => ⟨hlt, B5, w5, (s2.trans s3).trans s5, F5⟩
      · exact rss_tb hb σ4 H3 B3 w2 F4 _ fun σ5 H5 B5 w5 s5 F5 => ⟨hlt, B5, w5, (s2.trans s3).trans s5, F5⟩
    · obtain rfl : i = m := by omega
      rcases fin with ⟨e, _⟩ | ⟨x', hx', ρ', js, so', ⟨g, pg, eg⟩, hb, lo⟩
      · omega
      · rw [hx] at hx'
        obtain rfl := Option.some.inj hx'
        refine ⟨g, pg, eg σ2 H3 B3 w2 v F3 d3 _ fun σ4 F4 _ => ?_⟩
        have st := (s1.trans s2).trans s3
        cases lo with
        | bk => exact rss_tb hb σ4 H3 B3 w2 F4 _ fun σ5 H5 B5 w5 s5 F5 => k σ5 H5 B5 w5 (st.trans s5) F5
        | rt => exact rss_tb hb σ4 H3 B3 w2 F4 _ fun v σ5 H5 B5 w5 s5 F5 i5 => k v σ5 H5 B5 w5 (st.trans s5) F5 (i5.back st)
        | er => exact rss_tb hb σ4 H3 B3 w2 F4 _ fun d H5 B5 w5 s5 F5 i5 => k d H5 B5 w5 (st.trans s5) F5 i5
  · rcases fin with ⟨e, rfl⟩ | ⟨x', hx', _⟩
    · subst e
      exact k σ2 H2 B2 w2 (s1.trans s2) F2
    · have := (List.getElem?_eq_some_iff.mp hx').1
      omega
/-- the loop goes to its end -/
theorem rs_for (inv : Nat → Rho) (h : IV X p tg iter ρ xs (inv 0)) (hp : PassesOwn (model X.prog X.w) X.A X.env X.xe) (hc : X.calm = true)
    (step : ∀ i x, xs[i]? = some x → ∃ ρ' js, GV X p tg x (inv i) ρ' js ∧ (RSs X p er body ρ' (.nx (inv (i + 1))) ∨ RSs X p er body ρ' (.ct (inv (i + 1)))))
    (hs : ∀ x, foldedSetIterable iter X.env x = pure x := by intro _; rfl) : RS X p er (.For tg iter body [] pos) ρ (.nx (inv xs.length)) :=
  rs_forX xs.length inv h hp hc (fun i x _ hx => step i x hx) (.inl ⟨rfl, rfl⟩) hs
/-- while: m turns -/
theorem rs_while (m : Nat) (inv : Nat → Rho) (h0 : ρ = inv 0) (hp : PassesOwn (model X.prog X.w) X.A X.env X.xe) (ht : ∀ i, i < m → RT X p c (inv i) true (inv i)) (hf : RT X p c (inv m) false (inv m))
    (step : ∀ i, i < m → RSs X p er body (inv i) (.nx (inv (i + 1)))) : RS X p er (.While c body [] pos) ρ (.nx (inv m)) := by
  subst h0
  refine ⟨_, ps_while hp tt_ok tb_ok, fun σ H B w F D k => ⟨fun j σ2 H2 => ∃ i, i + j = m ∧ ∃ B2 w2, Stp p.T w B H w2 B2 H2 ∧ Rl X.K p.T p.φ B2 w2 H2 σ2 (inv i), ⟨m, 0, by omega, B, w, Stp.refl, F⟩, fun j σ2 H2 ⟨i, e, B2, w2, s2, F2⟩ => ?_⟩⟩
  by_cases hi : i < m
  · refine rt_tt (ht i hi) σ2 H2 B2 w2 F2 _ fun H3 B3 w3 s3 F3 => ?_
    rw [if_pos rfl]
    refine ⟨fun σ' H' => ∃ B' w', Stp p.T w B H w' B' H' ∧ Rl X.K p.T p.φ B' w' H' σ' (inv (i + 1)), fun σ' H' ⟨B', w', s', F'⟩ => ⟨m - (i + 1), by omega, i + 1, by omega, B', w', s', F'⟩, ?_⟩
    exact rss_tb (step i hi) σ2 H3 B3 w3 F3 _ fun σ5 H5 B5 w5 s5 F5 => ⟨B5, w5, (s2.trans s3).trans s5, F5⟩
  · obtain rfl : i = m := by omega
    refine rt_tt hf σ2 H2 B2 w2 F2 _ fun H3 B3 w3 s3 F3 => ?_
    rw [if_neg (by decide)]
    exact k σ2 H3 B3 w3 (s2.trans s3) F3

/-! ### comprehensions -/
def wipeR (ρ : Rho) : List Nat → Rho
  | [] => ρ
  | v :: vs => (wipeR ρ vs).set v none
theorem wipe_at {σ : L2.St} : ∀ {js : List Nat} {i : Nat}, i ∉ js → (wipe σ js)[i]? = σ[i]?
  | [], _, _ => rfl
  | j :: js, i, h => by
    show ((wipe σ js).set j none)[i]? = _
    rw [List.getElem?_set_ne (fun e => h (by simp [e]))]
    exact wipe_at fun z => h (List.mem_cons_of_mem _ z)
theorem wipeR_at {ρ : Rho} : ∀ {js : List Nat} {i : Nat}, i ∉ js → (wipeR ρ js)[i]? = ρ[i]?
  | [], _, _ => rfl
  | j :: js, i, h => by
    show ((wipeR ρ js).set j none)[i]? = _
    rw [List.getElem?_set_ne (fun e => h (by simp [e]))]
    exact wipeR_at fun z => h (List.mem_cons_of_mem _ z)
theorem wipeR_none {ρ : Rho} {d : Dt} : ∀ {js : List Nat} {i : Nat}, (wipeR ρ js)[i]? = some (some d) → i ∉ js
  | [], _, _ => by simp
  | j :: js, i, h => by
    have h' : ((wipeR ρ js).set j none)[i]? = some (some d) := h
    by_cases e : i = j
    · subst e
      rw [List.getElem?_set] at h'
      simp at h'
    · rw [List.getElem?_set_ne (Ne.symm e)] at h'
      intro z
      rcases List.mem_cons.mp z with z | z
      · exact e z
      · exact wipeR_none h' z
theorem wipeR_len {ρ : Rho} : ∀ {js : List Nat}, (wipeR ρ js).length = ρ.length
  | [] => rfl
  | j :: js => by
    show ((wipeR ρ js).set j none).length = _
    rw [List.length_set, wipeR_len]
/-- the block's slots are wiped -/
theorem Rl.wipe (F : Rl K T φ B w H σ ρ) (hφ : ∀ j ∈ js, φ j = none) : Rl K T φ B w H (wipe σ js) (wipeR ρ js) := by
  refine ⟨F.ext, by rw [wipeR_len, wipe_length]; exact F.len, F.wok, F.tabs, F.nt, fun i v h => ?_, fun i x h => ?_, fun i x h => ?_, fun i x h => ?_⟩
  · rw [wipe_at fun z => by rw [hφ i z] at h; cases h]
    exact F.fix i v h
  · have hn := wipeR_none h
    rw [wipeR_at hn] at h
    rw [wipe_at hn]
    exact F.dat i x h
  · have hn := wipeR_none h
    rw [wipeR_at hn] at h
    rw [wipe_at hn]
    exact F.own i x h
  · have hn := wipeR_none h
    rw [wipeR_at hn] at h
    rw [wipe_at hn]
    exact F.obj i x h
/-- and stand as before -/
theorem Rl.unwipe (F : Rl K T φ B w H (L2.wipe σ js) ρ) (hρ : ∀ i d, ρ[i]? = some (some d) → i ∉ js) (hφ : ∀ j ∈ js, φ j = none) : Rl K T φ B w H σ ρ := by
  refine ⟨F.ext, by rw [F.len, wipe_length], F.wok, F.tabs, F.nt, fun i v h => ?_, fun i x h => ?_, fun i x h => ?_, fun i x h => ?_⟩
  · have := F.fix i v h
    rwa [wipe_at fun z => by rw [hφ i z] at h; cases h] at this
  · have hn := hρ i _ h
    have := F.dat i x h
    rwa [wipe_at hn] at this
  · have hn := hρ i _ h
    have := F.own i x h
    rwa [wipe_at hn] at this
  · have hn := hρ i _ h
    have := F.obj i x h
    rwa [wipe_at hn] at this
theorem Rl.slots {σ' : L2.St} (F : Rl K T φ B w H σ ρ) (hl : σ'.length = σ.length) (hρ : ∀ (i : Nat) (d : Dt), ρ[i]? = some (some d) → σ'[i]? = σ[i]?) (hφ : ∀ (i : Nat) (v : V), φ i = some v → σ'[i]? = σ[i]?) : Rl K T φ B w H σ' ρ :=
  ⟨F.ext, F.len.trans hl.symm, F.wok, F.tabs, F.nt, fun i v h => (hφ i v h).trans (F.fix i v h), fun i x h => let ⟨v, h1, h2⟩ := F.dat i x h; ⟨v, (hρ i _ h).trans h1, h2⟩,
    fun i x h => let ⟨l, us, h1, h2⟩ := F.own i x h; ⟨l, us, (hρ i _ h).trans h1, h2⟩, fun i x h => let ⟨l, us, h1, h2⟩ := F.obj i x h; ⟨l, us, (hρ i _ h).trans h1, h2⟩⟩
theorem wipe_eq {σ' : L2.St} (hl : σ'.length = σ.length) (h : ∀ j, j ∉ js → σ'[j]? = (L2.wipe σ js)[j]?) : L2.wipe σ' js = L2.wipe σ js := by
  apply List.ext_getElem?
  intro i
  by_cases hi : i ∈ js
  · have key : ∀ (τ : L2.St) (l : List Nat), i ∈ l → (L2.wipe τ l)[i]? = if i < τ.length then some none else none := by
      intro τ l
      induction l with
      | nil =>
        intro h
        cases h
      | cons j l ih =>
        intro hm
        show ((L2.wipe τ l).set j none)[i]? = _
        by_cases e : i = j
        · subst e
          rw [List.getElem?_set, wipe_length]
          simp
        · rw [List.getElem?_set_ne (Ne.symm e)]
          exact ih ((List.mem_cons.mp hm).resolve_left e)
    rw [key σ' js hi, key σ js hi, hl]
  · rw [wipe_at hi, h i hi]
abbrev Blk (X : Cx) (scope : Scope) (s : Shared) (H : Hp) (C : Addr) (cl : List (Str × Addr)) (fp : List Addr) : Cx := X.blk s H scope (compEnvC scope cl C X.env) fp
theorem blk_v {scope : Scope} {S : List (Rho × Rs × Rho)} (h : ∀ q ∈ S, ∀ s H C cl fp, RV (Blk X scope s H C cl fp) p elt q.1 q.2.1 q.2.2) : ∃ t, (∀ s H C cl fp, PE (Blk X scope s H C cl fp) elt t) ∧ ∀ q ∈ S, EvS X.K p t q.1 q.2.1 q.2.2 := by
  refine ⟨fun σ H Q => ∀ s Hb C cl fp, ∃ t, PE (Blk X scope s Hb C cl fp) elt t ∧ t σ H Q, fun s H C cl fp => ⟨fun pins s' σ H' Q I h' => ?_⟩, fun q hq σ H B w F Q k s Hb C cl fp => ?_⟩
  · obtain ⟨t, pt, ht⟩ := h' s H C cl fp
    exact pt.run pins s' σ H' Q I ht
  · obtain ⟨t, pt, et⟩ := h q hq s Hb C cl fp
    exact ⟨t, pt, et σ H B w F Q k⟩
def TEb (X : Cx) (scope : Scope) (e : Expr) : TE := fun σ H Q => ∀ s Hb C cl fp, ∃ t, PE (Blk X scope s Hb C cl fp) e t ∧ t σ H Q
theorem teb_ok {scope : Scope} (s : Shared) (H : Hp) (C : Addr) (cl : List (Str × Addr)) (fp : List Addr) : PE (Blk X scope s H C cl fp) e (TEb X scope e) := ⟨fun pins s' σ H' Q I h' => by
  obtain ⟨t, pt, ht⟩ := h' s H C cl fp
  exact pt.run pins s' σ H' Q I ht⟩
def TTb (X : Cx) (scope : Scope) (es : List Expr) : TT := fun σ H Q => ∀ s Hb C cl fp, ∃ t, PTs (Blk X scope s Hb C cl fp) es t ∧ t σ H Q
theorem ttb_ok {scope : Scope} (s : Shared) (H : Hp) (C : Addr) (cl : List (Str × Addr)) (fp : List Addr) : PTs (Blk X scope s H C cl fp) es (TTb X scope es) := ⟨fun pins s' σ H' Q I h' => by
  obtain ⟨t, pt, ht⟩ := h' s H C cl fp
  exact pt.run pins s' σ H' Q I ht⟩
def TGb (X : Cx) (scope : Scope) (e : Expr) : TG := fun v σ H Q => ∀ s Hb C cl fp, ∃ t, PG (Blk X scope s Hb C cl fp) e t ∧ t v σ H Q
theorem tgb_ok {scope : Scope} (s : Shared) (H : Hp) (C : Addr) (cl : List (Str × Addr)) (fp : List Addr) : PG (Blk X scope s H C cl fp) e (TGb X scope e) := ⟨fun pins s' σ H' v u Q I r h' => by
  obtain ⟨t, pt, ht⟩ := h' s H C cl fp
  exact pt.run pins s' σ H' v u Q I r ht⟩
/-- the tests of a comprehension -/
def RTs (X : Cx) (p : Pm) (es : List Expr) (ρ : Rho) (b : Bool) : Prop := ∃ t, PTs X es t ∧ EvT X.K p t ρ b ρ
theorem rts_nil : RTs X p [] ρ true := ⟨_, pts_nil, fun σ H B w F Q k => k H B w Stp.refl F⟩
theorem rts_one (h : RT X p e ρ k1 ρ) : RTs X p [e] ρ k1 := by
  obtain ⟨t, pt, et⟩ := h
  exact ⟨_, pts_one pt, et⟩
/-- a comprehension: as a value and as what a name is set to -/
def RC (X : Cx) (p : Pm) (e : Expr) (ρ : Rho) (r : Rs) (ρ' : Rho) : Prop := ∃ t, PE X e t ∧
  (∀ (i : Nat) (y : Str) (py spos : Pos), X.N[i]? = some y → X.env.scope.names.lookup y = some .local → swapsWith e (some (.Name y py)) spos.line X.env = pure true → PS X (.Assign [.Name y py] e spos) (tAsg t (gName i))) ∧ EvS X.K p t ρ r ρ'
theorem RC.rv (h : RC X p e ρ r ρ') : RV X p e ρ r ρ' := by
  obtain ⟨t, h1, _, h2⟩ := h
  exact ⟨t, h1, h2⟩
/-- name = [..] on one line -/
theorem rs_setC {pos' : Pos} {n : Str} {er : Er} (i : Nat) {zs : List PyData} (h : RC X p e ρ (.li zs) ρ1) (hi : X.N[i]? = some n := by rfl) (hx : X.env.scope.names.lookup n = some .local := by rfl) (hφ : p.φ i = none := by rfl)
    (hs : swapsWith e (some (.Name n pos')) pos.line X.env = pure true := by rfl) (hE : ρ2 = ρ1.set i (oo zs) := by rfl) : RS X p er (.Assign [.Name n pos'] e pos) ρ (.nx ρ2) := by
  subst hE
  obtain ⟨t, _, pt, et⟩ := h
  refine ⟨_, pt i n pos' pos hi hx hs, fun σ H B w F D k => et σ H B w F _ fun v H' B' w' s F' i1 => ?_⟩
  obtain ⟨l, us, rfl, h0, hw, hb, hl, d⟩ := i1
  refine k _ H' B' _ ⟨s.bb, s.hh, s.th, s.nb, s.tb, s.nt, fun a h => ?_⟩ (rl_seto F' hφ hw hb hl d)
  by_cases ha : a = l
  · rw [ha]
    exact .inr h0
  · rw [if_neg ha] at h
    exact s.ww a h
/-- [elt for tg in iter if ..]: acc i is what stands behind i turns -/
theorem rc_lc {scope : Scope} {own : List (Str × Nat)} (inv : Nat → Rho) (acc : Nat → List PyData) (hc : X.calm = true) (hN : X.N.Nodup) (h : IV X p tg iter ρ xs ρ1) (ok : BlkOk X.N X.env.scope scope own)
    (h0 : inv 0 = wipeR ρ1 (own.map (·.2))) (a0 : acc 0 = []) (hw : ∀ i j, j ∈ own.map (·.2) → ∀ d, (inv i)[j]? ≠ some (some d)) (hφ : ∀ j ∈ own.map (·.2), p.φ j = none) (hlen : ∀ i, i ≤ xs.length → (acc i).length ≤ 50000)
    (step : ∀ i x, xs[i]? = some x → ∃ ρ' js k, (∀ j ∈ js, j ∈ own.map (·.2)) ∧ (∀ s H C cl fp, GV (Blk X scope s H C cl fp) p tg x (inv i) ρ' js) ∧ (∀ s H C cl fp, RTs (Blk X scope s H C cl fp) p ifs ρ' k) ∧
      ((k = true ∧ ∃ y ρ'', (∀ s H C cl fp, RV (Blk X scope s H C cl fp) p elt ρ' (.da y) ρ'') ∧ Wk ρ'' (inv (i + 1)) ∧ acc (i + 1) = acc i ++ [y]) ∨ (k = false ∧ Wk ρ' (inv (i + 1)) ∧ acc (i + 1) = acc i)))
    (hs : ∀ x, foldedSetIterable iter X.env x = pure x := by intro _; rfl) : RC X p (.ListComp elt [⟨tg, iter, ifs, 0⟩] scope pos) ρ (.li (acc xs.length)) (inv xs.length) := by
  obtain ⟨wi, pi, ei⟩ := h
  refine ⟨_, pe_lc hc hN pi ok tgb_ok ttb_ok teb_ok hs, fun i y py spos hy hyl hsw => ps_setLc hc hN hy hyl hsw pi ok tgb_ok ttb_ok teb_ok hs, fun σ H B w F Q k => ei σ H B w F _ fun J H1 B1 w1 s1 F1 wd Dl hD => ?_⟩
  obtain ⟨G, Y, wk, hG, hY⟩ := wd
  have FW := F1.wipe hφ
  obtain ⟨s0, F0, i0⟩ := new_lst (T := p.T) FW hD (.nil : DpAll X.K B1 [] [])
  rw [← h0] at F0
  refine lc_it wk (fun i H2 => ∃ B2 w2 us, Stp p.T w1 B1 H1 w2 B2 H2 ∧ Rl X.K p.T p.φ B2 w2 H2 (L2.wipe σ (own.map (·.2))) (inv i) ∧ w2 Dl = none ∧ B2 Dl = none ∧ H2 Dl = some (.lst us) ∧ DpAll X.K B2 us (acc i))
    ⟨B1, w1, [], s0, F0, w_none F1 hD, same_none F1.ext hD, upd_same, by rw [a0]; exact .nil⟩ (fun i H2 hi ⟨B2, w2, us, s2, F2, _⟩ => hG B2 H2 s2.bb F2.ext) (fun i v H2 H3 hi ⟨B2, w2, us, s2, F2, wd, bd, hd, du⟩ y => ?_) (fun H2 ⟨B2, w2, us, s2, F2, wd, bd, hd, du⟩ => ?_)
  · obtain ⟨B3, x, hx, s3, F3, d3⟩ := walk_item (T := p.T) hY s2.bb F2 hi y
    obtain ⟨ρ', js, kk, hjs, hg, ht, hcase⟩ := step i x hx
    -- the list's place behind a step
    have keep : ∀ {w5 : Addr → Option Nat} {B5 H5 : Hp}, Stp p.T w2 B2 H2 w5 B5 H5 → w5 Dl = none ∧ B5 Dl = none ∧ H5 Dl = some (.lst us) ∧ DpAll X.K B5 us (acc i) := fun {w5 B5 H5} st => by
      exact ⟨st.keepW (live_lst hd) wd, st.nb Dl (live_lst hd) bd wd, st.hh Dl _ hd wd (fun ps z => by cases z), dpa_mono st.bb du⟩
    have hai : (acc i).length ≤ 50000 := hlen i (by omega)
    have hus := dpa_len du
    -- the new item
    have push : ∀ {w5 : Addr → Option Nat} {B5 H5 : Hp} {ρ5 : Rho} {vy : V} {zy : PyData}, Stp p.T w2 B2 H2 w5 B5 H5 → Rl X.K p.T p.φ B5 w5 H5 (L2.wipe σ (own.map (·.2))) ρ5 → Dp X.K B5 vy zy → Wk ρ5 (inv (i + 1)) → acc (i + 1) = acc i ++ [zy] →
        ∃ ac, H5 Dl = some (.lst ac) ∧ ac.length < sizeLine ∧ ∃ B6 w6 us6, Stp p.T w1 B1 H1 w6 B6 (upd H5 Dl (.lst (ac ++ [vy]))) ∧ Rl X.K p.T p.φ B6 w6 (upd H5 Dl (.lst (ac ++ [vy]))) (L2.wipe σ (own.map (·.2))) (inv (i + 1)) ∧ w6 Dl = none ∧ B6 Dl = none ∧ (upd H5 Dl (.lst (ac ++ [vy]))) Dl = some (.lst us6) ∧ DpAll X.K B6 us6 (acc (i + 1)) := by
      intro w5 B5 H5 ρ5 vy zy st F5 dy wk5 ea
      obtain ⟨k1, k2, k3, k4⟩ := keep st
      have dD : ∀ a o, H1 a = some o → a ≠ Dl := fun a o h => ne_of_none h hD
      have st1 := s2.trans st
      have hlive : ∀ a, Live H5 a → Live (upd H5 Dl (.lst (us ++ [vy]))) a := fun a h => by
        by_cases ha : a = Dl
        · rw [ha]
          exact live_lst upd_same
        · obtain ⟨o, h, n⟩ := h
          exact ⟨o, by rw [upd_ne ha]; exact h, n⟩
      have htab : LamX.Tabs p.T H5 → LamX.Tabs p.T (upd H5 Dl (.lst (us ++ [vy]))) := by
        intro t pp hp
        obtain ⟨ps, q1, q2, q3⟩ := t pp hp
        refine ⟨ps, ?_, q2, fun pos cv hcv => ?_⟩
        · rw [upd_ne (fun e => by rw [e, k3] at q1; cases q1)]
          exact q1
        · obtain ⟨c, e1, e2⟩ := q3 pos cv hcv
          refine ⟨c, e1, ?_⟩
          rw [upd_ne (fun e => by rw [e, k3] at e2; cases e2)]
          exact e2
      have F5w := F5.weak wk5
      refine ⟨us, k3, by rw [hus]; exact Nat.lt_of_le_of_lt hai (by decide), B5, w5, us ++ [vy], ⟨st1.bb, fun a o h hw ho => ?_, fun a h => hlive a (st1.th a h), st1.nb, fun t => htab (st1.tb t), st1.nt, st1.ww⟩, ⟨fun a u e => ?_, F5w.len, fun a h => hlive a (F5.wok a h), htab F5.tabs, F5.nt, F5w.fix, F5w.dat, fun j z h => ?_, fun j z h => ?_⟩, k1, k2, upd_same, ?_⟩
      · rw [upd_ne (dD a o h)]
        exact st1.hh a o h hw ho
      · have : a ≠ Dl := fun z => by
          rw [z, k2] at e
          cases e
        rw [upd_ne this]
        exact F5.ext a u e
      · obtain ⟨m, us2, g1, g2, g3, g4, g5⟩ := (F5.weak wk5).own j z h
        have hm : m ≠ Dl := fun e => by
          rw [e, k1] at g2
          cases g2
        exact ⟨m, us2, g1, g2, g3, by rw [upd_ne hm]; exact g4, g5⟩
      · obtain ⟨m, us2, g1, g2, g3, g4, g5⟩ := (F5.weak wk5).obj j z h
        have hm : m ≠ Dl := fun e => by
          rw [e, k1] at g2
          cases g2
        exact ⟨m, us2, g1, g2, g3, by rw [upd_ne hm]; exact g4, g5⟩
      · rw [ea]
        exact dpa_app k4 (.cons dy .nil)
    intro s Hb C cl fp
    obtain ⟨g, pg, eg⟩ := hg s Hb C cl fp
    refine ⟨g, pg, eg _ H3 B3 w2 v F3 d3 _ fun σ4 F4 n4 => ⟨?_, ?_⟩⟩
    · exact wipe_eq (by rw [n4.1, wipe_length]) fun j hj => n4.2 j fun z => hj (hjs j z)
    · intro s' Hb' C' cl' fp'
      obtain ⟨tt, ptt, ett⟩ := ht s' Hb' C' cl' fp'
      have back : ∀ {w5 : Addr → Option Nat} {B5 H5 : Hp}, Rl X.K p.T p.φ B5 w5 H5 σ4 (inv (i + 1)) → Rl X.K p.T p.φ B5 w5 H5 (L2.wipe σ (own.map (·.2))) (inv (i + 1)) := fun {w5 B5 H5} F5 =>
        F5.slots n4.1.symm (fun j d hd => (n4.2 j fun z => hw _ j (hjs j z) d hd).symm) (fun j v hv => (n4.2 j fun z => by rw [hφ j (hjs j z)] at hv; cases hv).symm)
      refine ⟨tt, ptt, ett σ4 H3 B3 w2 F4 _ fun H5 B5 w5 s5 F5 => ?_⟩
      rcases hcase with ⟨rfl, yy, ρ'', hv, wk2, ea⟩ | ⟨rfl, wk2, ea⟩
      · rw [if_pos rfl]
        intro s6 Hb6 C6 cl6 fp6
        obtain ⟨te, pte, ete⟩ := hv s6 Hb6 C6 cl6 fp6
        exact ⟨te, pte, ete σ4 H5 B5 w5 F5 _ fun vy H6 B6 w6 s6 F6 dy => push ((s3.trans s5).trans s6) (back (F6.weak wk2)) dy (Wk.refl _) ea⟩
      · rw [if_neg (by decide)]
        obtain ⟨k1, k2, k3, k4⟩ := keep (s3.trans s5)
        exact ⟨B5, w5, us, s2.trans (s3.trans s5), back (F5.weak wk2), k1, k2, k3, by rw [ea]; exact k4⟩
  · have F3 : Rl X.K p.T p.φ B2 w2 H2 σ (inv xs.length) := F2.unwipe (fun i d hd hm => hw _ i hm d hd) hφ
    exact k _ H2 B2 w2 (s1.trans s2) F3 ⟨Dl, us, rfl, fun z => not_live hD (s1.th Dl z), wd, bd, hd, du⟩
end
end Dn

set_option Elab.async false
set_option linter.all false
set_option maxRecDepth 100000
set_option maxHeartbeats 1000000
namespace Dn
open PySem PySem.Spec PyProof.Rows L2

section
variable {P : Program} {w0 : World} {K : PySem.W.Frag} {mg : Str → Option Value} {base : Heap} {T : List (Addr × Str)}
def startR (N : List Str) (xs : List PyData) : Rho := xs.map dd ++ List.replicate (N.length - xs.length) none
theorem rl_start {N : List Str} {vs : List V} {xs : List PyData} {B H : Hp} (s : Same B H) (ht : LamX.Tabs T H) (hn : ∀ a ps, B a ≠ some (.tbl ps)) (d : DpAll K B vs xs) : Rl K T noφ B noW H (L2.start N vs) (startR N xs) := by
  have hl := dpa_len d
  refine ⟨s, ?_, fun a h => absurd rfl h, ht, hn, fun i v h => (nomatch h), fun i x h => ?_, fun i ys h => ?_, fun i O h => ?_⟩
  · unfold startR L2.start
    rw [List.length_append, List.length_append, List.length_map, List.length_map, List.length_replicate, List.length_replicate, hl]
  · have hi : i < xs.length := by
      by_cases hc : i < xs.length
      · exact hc
      · unfold startR at h
        rw [List.getElem?_append_right (by rw [List.length_map]; omega)] at h
        rw [List.getElem?_replicate] at h
        split at h
        · cases h
        · cases h
    unfold startR at h
    rw [List.getElem?_append_left (by rw [List.length_map]; exact hi), List.getElem?_map] at h
    cases e : xs[i]? with
    | none =>
      rw [e] at h
      cases h
    | some y =>
      rw [e] at h
      cases h
      obtain ⟨v, h1, h2⟩ := dpa_get d e
      refine ⟨v, ?_, h2⟩
      unfold L2.start
      rw [List.getElem?_append_left (by rw [List.length_map, hl]; exact hi), List.getElem?_map, h1]
      rfl
  · unfold startR at h
    by_cases hc : i < xs.length
    · rw [List.getElem?_append_left (by rw [List.length_map]; exact hc), List.getElem?_map] at h
      cases e : xs[i]? with
      | none =>
        rw [e] at h
        cases h
      | some y =>
        rw [e] at h
        cases h
    · rw [List.getElem?_append_right (by rw [List.length_map]; omega), List.getElem?_replicate] at h
      split at h
      · cases h
      · cases h
  · unfold startR at h
    by_cases hc : i < xs.length
    · rw [List.getElem?_append_left (by rw [List.length_map]; exact hc), List.getElem?_map] at h
      cases e : xs[i]? with
      | none =>
        rw [e] at h
        cases h
      | some y =>
        rw [e] at h
        cases h
    · rw [List.getElem?_append_right (by rw [List.length_map]; omega), List.getElem?_replicate] at h
      split at h
      · cases h
      · cases h
/-- a def's end -/
inductive Fin : Oc → So → Prop
  | nx {ρ : Rho} : Fin (.ret (.da .none)) (.nx ρ)
  | da {x : PyData} {ρ : Rho} : Fin (.ret (.da x)) (.rt (.da x) ρ)
  | li {xs : List PyData} {ρ : Rho} : Fin (.ret (.li xs)) (.rt (.li xs) ρ)
  | sl {i : Nat} {zs : List PyData} {ρ : Rho} : ρ[i]? = some (oo zs) → Fin (.ret (.li zs)) (.rt (.sl i) ρ)
  | er {nm : Xn} : Fin (.err nm) (.er nm)
/-- the context of a def's body -/
abbrev CxD (P : Program) (w0 : World) (K : PySem.W.Frag) (mg : Str → Option Value) (base : Heap) (N : List Str) (qual : Str) (st : Stmt) (f : Addr) (cdv : Value) (A : Around) (outer : List Env) (s : Shared) (H : Hp) (E : XK) : Cx :=
  cxOf (L2.CX P w0) P w0 K mg base N qual (defScope st) f cdv A outer s H E
/-- a def that takes data -/
theorem ok_pure {x qual : Str} {st : Stmt} {f : Addr} {fd : FuncData} {N ps : List Str} {k : Nat} {C : Addr} {fl : Str} {S : List PyData → Oc → Prop} (F : Fun K x qual st f fd) (Sc : FnScope N ps (defScope st)) (len : ∀ xs oc, S xs oc → xs.length = ps.length)
    (body : ∀ cdv A outer s H E, Room k (CxD P w0 K mg base N qual st f cdv A outer s H E).A → ∀ xs oc, S xs oc → ∃ so, RSs (CxD P w0 K mg base N qual st f cdv A outer s H E) ⟨T, noφ⟩ ⟨C, fl, E⟩ (defBody st) (startR N xs) so ∧ Fin oc so) :
    FnOk P w0 K mg base (L2.CX P w0) (k + 1) f fd ps (spP K T C fl S) := by
  refine F.okX Sc (fun vs H Q E h => ?_) (fun cdv A outer s H vs Q E hr h => ?_)
  · obtain ⟨xs, oc, B, hS, _, _, _, d, _⟩ := h
    rw [dpa_len d]
    exact len xs oc hS
  · obtain ⟨xs, oc, B, hS, sB, ht, hnt, d, post⟩ := h
    obtain ⟨so, ⟨t, pt, et⟩, fin⟩ := body cdv A outer s H E hr xs oc hS
    refine ⟨t, pt, et (L2.start N vs) H B noW (rl_start sB ht hnt d) _ ?_⟩
    cases fin with
    | nx => exact fun σ' H' B' w' st F' => post .non H' B' w' st F'.ext .non
    | da => exact fun v σ' H' B' w' st F' i => post v H' B' w' st F'.ext i
    | li => exact fun v σ' H' B' w' st F' i => post v H' B' w' st F'.ext i
    | @sl i zs ρ e =>
      intro v σ' H' B' w' st F' i1
      obtain ⟨l, us, h1, h2, h3, h4, h5⟩ := F'.own i zs e
      have i1' : σ'[i]? = some (some v) := i1
      rw [h1] at i1'
      obtain rfl : V.ref l = v := Option.some.inj (Option.some.inj i1')
      have hl : ¬ Live H l := by
        rcases st.ww l (by rw [h2]; simp) with z | z
        · exact absurd rfl z
        · exact z
      refine post (.ref l) H' B' (fun a => if a = l then none else w' a) ⟨st.bb, st.hh, st.th, st.nb, st.tb, st.nt, fun a h => ?_⟩ F'.ext ⟨l, us, rfl, hl, if_pos rfl, h3, h4, h5⟩
      by_cases ha : a = l
      · rw [if_pos ha] at h
        exact absurd rfl h
      · rw [if_neg ha] at h
        exact st.ww a h
    | er => exact fun d H' B' w' st e h => post d H' B' w' st e h
/-- slot 0 stands -/
def φ0 (l : Addr) : Nat → Option V
  | 0 => some (.ref l)
  | _ + 1 => none
/-- a def whose first argument is a list of the caller's -/
theorem ok_own {x qual : Str} {st : Stmt} {f : Addr} {fd : FuncData} {n0 : Str} {N ps : List Str} {k : Nat} {C : Addr} {fl : Str} {S : List PyData → List PyData → Oc → List PyData → Prop} (F : Fun K x qual st f fd) (Sc : FnScope (n0 :: N) (n0 :: ps) (defScope st)) (len : ∀ zs xs oc zs', S zs xs oc zs' → xs.length = ps.length)
    (body : ∀ cdv A outer s H E l, Room k (CxD P w0 K mg base (n0 :: N) qual st f cdv A outer s H E).A → ∀ zs xs oc zs', S zs xs oc zs' → ∃ r ρ, RSs (CxD P w0 K mg base (n0 :: N) qual st f cdv A outer s H E) ⟨T, φ0 l⟩ ⟨C, fl, E⟩ (defBody st) (oo zs :: startR N xs) (.rt r ρ) ∧ oc = .ret r ∧ ρ[0]? = some (oo zs') ∧ ∀ i, r ≠ .sl i) :
    FnOk P w0 K mg base (L2.CX P w0) (k + 1) f fd (n0 :: ps) (spO K T C fl S) := by
  refine F.okX Sc (fun vs H Q E h => ?_) (fun cdv A outer s H vs Q E hr h => ?_)
  · obtain ⟨l, us, zs, xs, oc, zs', B, ws, rfl, hS, _, _, _, d, _⟩ := h
    rw [List.length_cons, List.length_cons, dpa_len d, len zs xs oc zs' hS]
  · obtain ⟨l, us, zs, xs, oc, zs', B, ws, rfl, hS, sB, ht, hnt, d, hb, hl, dz, post⟩ := h
    obtain ⟨r, ρ, ⟨t, pt, et⟩, rfl, hρ, hn⟩ := body cdv A outer s H E l hr zs xs oc zs' hS
    have F0 := rl_start (N := N) sB ht hnt d
    have est : L2.start (n0 :: N) (.ref l :: us) = some (.ref l) :: L2.start N us := by
      unfold L2.start
      rw [List.map_cons, List.length_cons, List.length_cons, Nat.add_sub_add_right]
      rfl
    have F1 : Rl K T (φ0 l) B (fun a => if a = l then some 0 else none) H (L2.start (n0 :: N) (.ref l :: us)) (oo zs :: startR N xs) := by
      rw [est]
      refine ⟨sB, congrArg (· + 1) F0.len, fun a h => ?_, ht, hnt, fun i v h => ?_, fun i x h => ?_, fun i ys h => ?_, fun i ys h => ?_⟩
      · by_cases ha : a = l
        · rw [ha]
          exact live_lst hl
        · rw [if_neg ha] at h
          exact absurd rfl h
      · cases i with
        | zero => exact congrArg some h
        | succ i => cases h
      · cases i with
        | zero => cases h
        | succ i => exact F0.dat i x h
      · cases i with
        | zero =>
          cases h
          exact ⟨l, ws, rfl, if_pos rfl, hb, hl, dz⟩
        | succ i =>
          obtain ⟨m, us', h1, h2, _⟩ := F0.own i ys h
          cases h2
      · cases i with
        | zero => cases h
        | succ i =>
          obtain ⟨m, us', h1, h2, _⟩ := F0.obj i ys h
          cases h2
    refine ⟨t, pt, et _ H B _ F1 _ ?_⟩
    intro v σ' H' B' w' st F' i
    have hfix := F'.fix 0 (.ref l) rfl
    obtain ⟨l', us', h1, h2, h3, h4, h5⟩ := F'.own 0 zs' hρ
    rw [h1] at hfix
    obtain rfl : l' = l := V.ref.inj (Option.some.inj (Option.some.inj hfix))
    refine post v H' B' w' us' st F'.ext h3 h4 h5 ?_ fun ys er ev => ?_
    · cases r with
      | da z => exact i
      | li z => exact i
      | sl j => exact absurd rfl (hn j)
    · subst er
      obtain ⟨m, us2, e2, g0, g⟩ := i
      rw [e2] at ev
      obtain rfl := V.ref.inj ev
      exact g0 (live_lst hl)
end
end Dn

set_option Elab.async false
set_option linter.all false
set_option maxRecDepth 100000
set_option maxHeartbeats 1000000
namespace Dn
open PySem PySem.Spec PyProof.Rows L2

section
variable {X : Cx} {p : Pm} {er : Er} {so : So} {ρ ρ1 ρ2 ρ3 ρ4 : Rho} {a b c e tg iter : Expr} {es : List Expr} {st : Stmt} {sts body orelse : List Stmt} {ra rb rc r : Rs} {rs : List Rs} {pos pos' : Pos}
variable {K : PySem.W.Frag} {T : List (Addr × Str)} {φ : Nat → Option V} {w w1 : Addr → Option Nat} {B B1 H H0 H1 : Hp} {σ σ1 : L2.St} {x y v : V} {vs : List V} {xs ys : List PyData} {q : Addr} {k1 k2 : Bool} {n : Str} {js : List Nat} {D : Ends} {z : PyData}

/-! ### isinstance -/
def tyD : PyData → String
  | .none => "NoneType"
  | .bool _ => "bool"
  | .int _ => "int"
  | .str _ => "str"
  | .list _ => "list"
  | .tuple _ => "tuple"
  | .dict _ => "dict"
theorem tyx_of (h : Dp K H v z) : TyX K H v (.type (tyD z)) := by
  cases h with
  | non => exact .base .non
  | bl b => exact .base (.bl b)
  | int i => exact .base (.int i)
  | str s => exact .base (.str s)
  | lst s d =>
    rcases s with (s | ⟨o, s⟩) | ⟨o, its, n, s, hc, _⟩
    · exact .base (.lst s)
    · exact .base (.frz s)
    · exact .kList s hc
  | tup s d =>
    rcases s with (s | ⟨o, s⟩) | ⟨o, its, n, s, hc, _⟩
    · exact .base (.tup s)
    · exact .fTuple s
    · exact .kTuple s hc
theorem rv_isi {pp p2 : Pos} {T0 : String} {k : Bool} {tn : Str} (h : RV X p a ρ ra ρ1) (hv : Dv ρ1 ra z) (hk : kitB (tyD z) T0 = some k) (hm : X.mg "isinstance" = none) (hmT : X.mg tn = none) (hb : bootBuiltins tn = some (.type T0) := by decide +kernel)
    (hg : Gl X "isinstance" := by rfl) (hgT : Gl X tn := by rfl) (hn : tn ≠ "__name__" := by decide) (hd : (tn == ("__debug__" : Str)) = false := by decide)
    (he : starEach [a, .Name tn p2] X.env = (false, eval a X.env) :: starEach [.Name tn p2] X.env := by rfl) (he2 : starEach [.Name tn p2] X.env = (false, eval (.Name tn p2) X.env) :: starEach [] X.env := by rfl)
    (hpl : (backTo pos (starEach [.Name tn p2] X.env)).any (·.1) = false := by rfl) : RV X p (.Call (.Name "isinstance" pp) [a, .Name tn p2] [] pos) ρ (.da (.bool k)) ρ1 := by
  obtain ⟨t, pt, et⟩ := h
  refine ⟨_, pe_callB call_isi hg hm (by decide +kernel) (pa_cons pt (pa_cons (pe_bltn (v := .ty T0) hgT hmT hb rfl hn hd) pa_nil he2) he) (by decide) (by decide) he hpl, fun σ H B w F Q k0 => et σ H B w F _ fun v H1 B1 w1 s1 F1 i1 => ?_⟩
  exact ⟨v, .ty T0, _, _, k, rfl, .ty T0, tyx_of (dv_ok F1 i1 hv), kit_ty hk, k0 _ H1 B1 w1 s1 F1 (.bl _)⟩

/-! ### own errors -/
/-- an own error class x of the program, made of one text, kept at fl -/
structure ErT (P : Program) (K : PySem.W.Frag) (mg : Str → Option Value) (x : Str) (C : Addr) (fl : Str) : Prop where
  ex : ∃ qual f cc ca fd, Sx.ETxt P K mg fl qual C f cc ca fd ∧ Binds K fd ["self", fl] []
  g : mg x = some (.ref C)
  n1 : fl ≠ "self"
  n2 : fl ≠ "super"
  n3 : fl ≠ "__class__"
  nd : (fl == ("__debug__" : Str)) = false
  nc : (fl == ("__classdict__" : Str)) = false
theorem rs_raise {cn : Str} {pp p2 : Pos} {nm : Str} {k : Nat} (ET : ErT X.prog X.K X.mg cn er.C er.fl) (hr : Room (k + 2) X.A) (tk : Takes X (fun cls d _ H => er.E cls d H)) (h : RA X p [e] ρ [.da (.str nm)] ρ1) (hc : X.calm = true := by rfl) (hg : Gl X cn := by rfl)
    (hdb : (cn == ("__debug__" : Str)) = false := by decide) (he : starEach [e] X.env = (false, eval e X.env) :: starEach [] X.env := by rfl) (hpl : (backTo p2 (starEach [] X.env)).any (·.1) = false := by rfl) :
    RS X p er (.Raise (some (.Call (.Name cn pp) [e] [] p2)) none pos) ρ (.er (.s nm)) := by
  obtain ⟨qual, f, cc, ca, fd, ET1, hb⟩ := ET.ex
  obtain ⟨t, pt, et⟩ := h
  have F1 : FnOk X.prog X.w X.K X.mg X.base (L2.CX X.prog X.w) (k + 1) f fd ["self", er.fl] (Sx.spE er.C er.fl) := Sx.ok_init ET1 ET.n1 ET.n2 ET.n3 ET.nd ET.nc
  refine ⟨_, ps_raise hc tk (pmk_oex ET1.ox ET1.ini ET1.tyf F1 hr hb .nil passL hg ET.g pt hdb he hpl), fun σ H B w F D k0 => et σ H B w F _ fun vs H1 B1 w1 s1 F1 i1 => ?_⟩
  obtain ⟨v, rfl, iv⟩ := itvs1 i1
  obtain rfl := dp_str iv
  refine ⟨by show 1 ≤ 1000; decide, fun a ha => ⟨a, .str nm, rfl, upd_same, fun dx hd hda => ⟨rfl, dx, [(er.fl, .str nm)], upd_same, by rw [upd_ne hda, upd_same], ?_, ?_⟩⟩⟩
  · have := hd
    rwa [upd_ne hda] at this
  · have hd1 : H1 dx = none := by
      have := hd
      rwa [upd_ne hda] at this
    have key : ∀ b o, H1 b = some o → (upd (del (upd (upd (upd H1 a (exo a er.C none)) dx (exd dx [(er.fl, .str nm)])) a (exo a er.C (some dx))) a) dx (.xd [(er.fl, .str nm)])) b = some o := fun b o h => by
      have h1 := ne_of_none h hd1
      have h2 := ne_of_none h ha
      rw [upd_ne h1, del_ne h2, upd_ne h2, upd_ne h1, upd_ne h2]
      exact h
    have st : Stp p.T w1 B1 H1 w1 B1 (upd (del (upd (upd (upd H1 a (exo a er.C none)) dx (exd dx [(er.fl, .str nm)])) a (exo a er.C (some dx))) a) dx (.xd [(er.fl, .str nm)])) :=
      ⟨Same.refl B1, fun b o h _ _ => key b o h, fun b ⟨o, h, n⟩ => ⟨o, key b o h, n⟩, fun b _ h _ => h, fun t => t.ext key, fun t => t, fun b h => .inl h⟩
    exact k0 dx _ B1 w1 (s1.trans st) (F1.ext.trans key) upd_same

theorem rs_raiseI {cn : Str} {pp p2 : Pos} {nm : Int} {k : Nat} (ET : ErT X.prog X.K X.mg cn er.C er.fl) (hr : Room (k + 2) X.A) (tk : Takes X (fun cls d _ H => er.E cls d H)) (h : RA X p [e] ρ [.da (.int nm)] ρ1) (hc : X.calm = true := by rfl) (hg : Gl X cn := by rfl)
    (hdb : (cn == ("__debug__" : Str)) = false := by decide) (he : starEach [e] X.env = (false, eval e X.env) :: starEach [] X.env := by rfl) (hpl : (backTo p2 (starEach [] X.env)).any (·.1) = false := by rfl) :
    RS X p er (.Raise (some (.Call (.Name cn pp) [e] [] p2)) none pos) ρ (.er (.i nm)) := by
  obtain ⟨qual, f, cc, ca, fd, ET1, hb⟩ := ET.ex
  obtain ⟨t, pt, et⟩ := h
  have F1 : FnOk X.prog X.w X.K X.mg X.base (L2.CX X.prog X.w) (k + 1) f fd ["self", er.fl] (Sx.spE er.C er.fl) := Sx.ok_init ET1 ET.n1 ET.n2 ET.n3 ET.nd ET.nc
  refine ⟨_, ps_raise hc tk (pmk_oex ET1.ox ET1.ini ET1.tyf F1 hr hb .nil passL hg ET.g pt hdb he hpl), fun σ H B w F D k0 => et σ H B w F _ fun vs H1 B1 w1 s1 F1 i1 => ?_⟩
  obtain ⟨v, rfl, iv⟩ := itvs1 i1
  obtain rfl := dp_int iv
  refine ⟨by show 1 ≤ 1000; decide, fun a ha => ⟨a, .int nm, rfl, upd_same, fun dx hd hda => ⟨rfl, dx, [(er.fl, .int nm)], upd_same, by rw [upd_ne hda, upd_same], ?_, ?_⟩⟩⟩
  · have := hd
    rwa [upd_ne hda] at this
  · have hd1 : H1 dx = none := by
      have := hd
      rwa [upd_ne hda] at this
    have key : ∀ b o, H1 b = some o → (upd (del (upd (upd (upd H1 a (exo a er.C none)) dx (exd dx [(er.fl, .int nm)])) a (exo a er.C (some dx))) a) dx (.xd [(er.fl, .int nm)])) b = some o := fun b o h => by
      have h1 := ne_of_none h hd1
      have h2 := ne_of_none h ha
      rw [upd_ne h1, del_ne h2, upd_ne h2, upd_ne h1, upd_ne h2]
      exact h
    have st : Stp p.T w1 B1 H1 w1 B1 (upd (del (upd (upd (upd H1 a (exo a er.C none)) dx (exd dx [(er.fl, .int nm)])) a (exo a er.C (some dx))) a) dx (.xd [(er.fl, .int nm)])) :=
      ⟨Same.refl B1, fun b o h _ _ => key b o h, fun b ⟨o, h, n⟩ => ⟨o, key b o h, n⟩, fun b _ h _ => h, fun t => t.ext key, fun t => t, fun b h => .inl h⟩
    exact k0 dx _ B1 w1 (s1.trans st) (F1.ext.trans key) upd_same

/-! ### what a call refuses: try: call() except C as e: return e.fl; return "" -/
theorem pss_len {t : TS} (h : PSs X sts t) : PSs X sts (fun D σ H => σ.length = X.N.length → t D σ H) := ⟨fun pins s σ H D I k => h.run pins s σ H D I (k I.len)⟩
def TTn (C : Addr) (fl : Str) : (XK → Hp → VK → Prop) → Hp → VK → Prop := fun tl H Q =>
  tl (fun cls d H' => cls = .ref C ∧ ∃ dd nm, d = some dd ∧ H' dd = some (.xd [(fl, .str nm)]) ∧ Q (.str nm) H') H (fun _ H' => Q (.str "") H')
theorem refused_gives {x n1 n2 cn q fl : Str} {sg : Scope} {g C : Addr} {cdg : Value} {j : Nat} {p1 p2 p3 p4 p5 p6 p7 p8 p9 p10 p11 : Pos} (hge : sg.names.lookup cn = some .globalImplicit) (hme : X.mg cn = some (.ref C)) (hde : (cn == ("__debug__" : Str)) = false)
    (hnd : ([n1, n2] : List Str).Nodup) (hl2 : sg.names.lookup n2 = some .local) (hd2 : (n2 == ("__debug__" : Str)) = false) (hcd2 : (n2 == ("__classdict__" : Str)) = false) (hx : PySem.W.exmOne X.K (.ref C) (.ref C) = some true) (XF : XfC X.K C) (hno : PySem.W.findIn X.K (.ref C) fl = some none)
    (hsw : ∀ (X' : Cx), swapsWith (.Call (.Name n1 p1) [] [] p2) none p3.line X'.env = pure false) (hat : ∀ (env : Env), attributeBase (.Name n2 p5) fl env (eval (.Name n2 p5) env) = eval (.Name n2 p5) env) :
    LamX.GivesTo X [n1, n2] x sg g cdg [.Try [.Expr (.Call (.Name n1 p1) [] [] p2) p3] [.ExceptHandler (some (.Name cn p4)) (some n2) [.Return (some (.Attribute (.Name n2 p5) fl p6)) p7] p8] [] [] p9, .Return (some (.Constant (.str "") j p10)) p11] n1 q (TTn C fl) := by
  intro f c' s H Q tl act hc h
  have hgl : Gl (cxOf C8.CX0 X.prog X.w X.K X.mg X.base [n1, n2] x sg g cdg X.A X.stack s H C8.E0).nox cn := hge
  refine ⟨_, pss_cons (ps_try_as (X := (cxOf C8.CX0 X.prog X.w X.K X.mg X.base [n1, n2] x sg g cdg X.A X.stack s H C8.E0).nox) (c := .ref C) (i := 1) (n := n2)
      (tb := fun W D σ H => ∃ Ec : XK, (∀ cls d σ' H', Ec cls d H' → W cls d σ' H') ∧ σ[0]? = some (some (.ref f)) ∧ H c' = some (LamX.CodeO c' q) ∧ tl Ec H (fun _ H1 => D.nx σ H1))
      (ts := fun a cls d D σ H => σ.length = 2 → tRet (tXf a cls d C fl (tVar 1)) D σ H) (Wout := fun _ _ _ _ => False)
      rfl rfl hnd rfl hl2 ⟨hgl, hde, .inl hme⟩ takes0 (fun W pn xe tk _ => ?_) (fun a oe cls d pn hz hf => ?_)) (pss_one (ps_ret pe_str)), ?_⟩
  · refine ⟨fun pins s' σ H' D I h' => ?_⟩
    obtain ⟨Ec, hW, e1, e2, e3⟩ := h'
    have hpe := act W pn xe Ec p1 p2 tk hW
    have hst := pss_one (ps_expr (pos := p3) hpe (hsw _))
    exact hst.run pins s' σ H' D I ⟨e1, e2, e3⟩
  · have hp := pss_one (ps_ret (pos := p7) (pe_xf (X := (cxOf C8.CX0 X.prog X.w X.K X.mg X.base [n1, n2] x sg g cdg X.A X.stack s H C8.E0).nox) (pos := p6) (te := tVar 1) XF hno hz hf (pe_var (X := ((cxOf C8.CX0 X.prog X.w X.K X.mg X.base [n1, n2] x sg g cdg X.A X.stack s H C8.E0).nox).suite a ((a, oe) :: pn)) (i := 1) rfl (.inl hl2) hd2 hcd2) (hat _)))
    exact pss_len hp
  · refine ⟨fun cls d H' => cls = .ref C ∧ ∃ dd nm, d = some dd ∧ H' dd = some (.xd [(fl, .str nm)]) ∧ Q (.str nm) H', fun cls d σ' H' hE => ?_, rfl, hc, h⟩
    obtain ⟨rfl, dd, nm, rfl, hxd, hq⟩ := hE
    refine ⟨true, hx, fun _ a ha hlen => ?_, fun z => by cases z⟩
    have h1 : (σ'.set 1 (some (.ref a)))[1]? = some (some (.ref a)) := by
      rw [List.length_set] at hlen
      exact List.getElem?_set_self (by omega)
    exact ⟨.ref a, h1, rfl, rfl, dd, _, .str nm, rfl, hxd, by simp [List.lookup], hq⟩

theorem Rl.extN (F : Rl K T φ B w H σ ρ) (e : LamX.ExtN H H1) (t : LamX.Tabs T H1) : Stp T w B H w B H1 ∧ Rl K T φ B w H1 σ ρ := by
  have hl : ∀ a, Live H a → Live H1 a := fun a ⟨o, h, n⟩ => ⟨o, e a o h n, n⟩
  exact ⟨⟨Same.refl B, fun a o h _ n => e a o h n, hl, fun a _ h _ => h, fun _ => t, fun t => t, fun a h => .inl h⟩,
    ⟨fun a o h => e a o (F.ext a o h) fun ps z => F.nt a ps (by rw [h, z]), F.len, fun a h => hl a (F.wok a h), t, F.nt, F.fix, F.dat, fun i xs h => let ⟨l, us, h1, h2, h3, h4, h5⟩ := F.own i xs h; ⟨l, us, h1, h2, h3, e l _ h4 (fun ps z => by cases z), h5⟩, fun i O h => let ⟨l, us, h1, h2, h3, h4, h5, _, nt⟩ := F.objx h; ⟨l, us, h1, h2, h3, e l _ h4 nt, h5⟩⟩⟩
/-- the def that is handed the lambda -/
structure RfT (P : Program) (w : World) (K : PySem.W.Frag) (mg : Str → Option Value) (base : Heap) (x : Str) (C : Addr) (fl : Str) : Prop where
  ex : ∃ (g : Addr) (fd : FuncData) (st : Stmt) (n1 n2 cn : Str) (j : Nat) (p1 p2 p3 p4 p5 p6 p7 p8 p9 p10 p11 : Pos), Fun K x x st g fd ∧ mg x = some (.ref g) ∧ Binds K fd [n1] [] ∧ FnScope [n1, n2] [n1] (defScope st) ∧ Vis (defScope st) n1 ∧ (n1 == ("__debug__" : Str)) = false ∧ (n1 == ("__classdict__" : Str)) = false ∧
    defBody st = [.Try [.Expr (.Call (.Name n1 p1) [] [] p2) p3] [.ExceptHandler (some (.Name cn p4)) (some n2) [.Return (some (.Attribute (.Name n2 p5) fl p6)) p7] p8] [] [] p9, .Return (some (.Constant (.str "") j p10)) p11] ∧
    (defScope st).names.lookup cn = some .globalImplicit ∧ mg cn = some (.ref C) ∧ (cn == ("__debug__" : Str)) = false ∧ (defScope st).names.lookup n2 = some .local ∧ (n2 == ("__debug__" : Str)) = false ∧ (n2 == ("__classdict__" : Str)) = false ∧
    (∀ (X' : Cx), swapsWith (.Call (.Name n1 p1) [] [] p2) none p3.line X'.env = pure false) ∧ (∀ (env : Env), attributeBase (.Name n2 p5) fl env (eval (.Name n2 p5) env) = eval (.Name n2 p5) env)
  hx : PySem.W.exmOne K (.ref C) (.ref C) = some true
  xf : XfC K C
  no : PySem.W.findIn K (.ref C) fl = some none
theorem refused_core {x : Str} {C c P0 : Addr} {fl nm : Str} {k : Nat} {pp lpos : Pos} {params : Arguments} {body : Expr} {scope : Scope} (R : RfT X.prog X.w X.K X.mg X.base x C fl) (TBx : LamX.TabB X.base X.mg c P0) (hcode : X.env.code = .ref c)
    (hmT : (P0, X.env.qual ++ "<lambda>") ∈ p.T) (hu : ∀ q ∈ p.T, q.1 = P0 → q.2 = X.env.qual ++ "<lambda>") (hr : Room (k + 2) X.A) (L : LamX.LamS X.env.scope scope)
    (hbody : ∀ (A : Around) (outer : List Env) (s : Shared) (H : Hp) (E : XK) (f c' : Addr), Room k (LamX.lamCx X A outer s H E scope f c').A →
      RX (LamX.lamCx X A outer s H E scope f c') p ⟨C, fl, E⟩ body ρ (.s nm) ∨ (nm = "" ∧ ∃ r ρ', RV (LamX.lamCx X A outer s H E scope f c') p body ρ r ρ' ∧ Wk ρ' ρ))
    (hdef : defaultsOf params X.env = ([], []) := by rfl) (hbind : ∀ (q : Str) (cl : List (Str × Addr)) (pm cv ctv : Value), bindArgs (PySem.W.kla_fn "<lambda>" q params body scope cl pm cv ctv) ⟨[], []⟩ = pure [] := by exact fun _ _ _ _ _ => rfl)
    (hg : Gl X x := by rfl) (hdb : (x == ("__debug__" : Str)) = false := by decide) : RV X p (.Call (.Name x pp) [.Lambda params body scope lpos] [] pos) ρ (.da (.str nm)) ρ := by
  obtain ⟨g, fd, st, n1, n2, cn, j, p1, p2, p3, p4, p5, p6, p7, p8, p9, p10, p11, F, hm, hb, Sg, hv, hd1, hcd1, hbg, hge, hme, hde, hl2, hd2, hcd2, hsw, hat⟩ := R.ex
  obtain ⟨oc, od, kV, doc, pm, an, cdv, ct, osl, rfl, lk, hcg⟩ := F.ex
  have hG := refused_gives (X := X) (x := x) (q := X.env.qual ++ "<lambda>") (g := g) (cdg := cdv) (j := j) (p1 := p1) (p2 := p2) (p3 := p3) (p4 := p4) (p5 := p5) (p6 := p6) (p7 := p7) (p8 := p8) (p9 := p9) (p10 := p10) (p11 := p11) hge hme hde Sg.nd hl2 hd2 hcd2 R.hx R.xf R.no hsw hat
  rw [← hbg] at hG
  refine ⟨_, LamX.pe_lamcall (T := p.T) (t := fun E => fun σ H Q => ∀ A outer s Hb f c', Room k (A.deeper (LamX.lamEnv X scope s.heap.objs.size f c')) → ∃ t, PE (LamX.lamCx X A outer s Hb E scope f c') body t ∧ t σ H Q)
    hg hm F.kp lk hcg hb Sg rfl hv hG TBx hcode hmT hu hr L hdef hbind (fun A outer s H E f c' hr' => ⟨fun pins s' σ H' Q I h => ?_⟩) hdb hd1 hcd1, fun σ H B w F0 Q k0 => ⟨F0.tabs, fun H1 e1 t1 => ?_⟩⟩
  · obtain ⟨t, pt, ht⟩ := h A outer s H f c' hr'
    exact pt.run pins s' σ H' Q I ht
  · obtain ⟨s1, F1⟩ := F0.extN e1 t1
    show ∀ A outer s Hb f c', Room k (A.deeper (LamX.lamEnv X scope s.heap.objs.size f c')) → ∃ t, PE (LamX.lamCx X A outer s Hb _ scope f c') body t ∧ t σ H1 _
    intro A outer s Hb f c' hr'
    rcases hbody A outer s Hb (fun cls d H' => cls = .ref C ∧ ∃ dd nm, d = some dd ∧ H' dd = some (.xd [(fl, .str nm)]) ∧ Q (.str nm) H') f c' hr' with h | ⟨rfl, r, ρ', h, wk⟩
    · obtain ⟨t, pt, et⟩ := h
      exact ⟨t, pt, et σ H1 B w F1 _ fun d H2 B2 w2 s2 F2 hd => ⟨rfl, d, nm, rfl, hd, k0 (.str nm) H2 B2 w2 (s1.trans s2) F2 (.str nm)⟩⟩
    · obtain ⟨t, pt, et⟩ := h
      exact ⟨t, pt, et σ H1 B w F1 _ fun v H2 B2 w2 s2 F2 i2 => k0 (.str "") H2 B2 w2 (s1.trans s2) (F2.weak wk) (.str "")⟩
end
end Dn

set_option Elab.async false
set_option linter.all false
set_option maxRecDepth 100000
set_option maxHeartbeats 1000000
namespace Dn
open PySem PySem.Spec PyProof.Rows L2

section
variable {X : Cx} {p : Pm} {er : Er} {so so' : So} {ρ ρ1 ρ2 ρ3 ρ4 : Rho} {a b c e tg iter elt t1 : Expr} {es ifs : List Expr} {pos pos' pos2 : Pos} {xs ys zs : List PyData} {js : List Nat}
/-- [elt for tg in iter if test] of data, nothing changed on the way -/
theorem rc_filmap {scope : Scope} {own : List (Str × Nat)} (g : PyData → Bool) (f : PyData → PyData) (hc : X.calm = true) (hN : X.N.Nodup) (h : IV X p tg iter ρ xs ρ1) (ok : BlkOk X.N X.env.scope scope own)
    (h0 : wipeR ρ1 (own.map (·.2)) = ρ1) (hlen : xs.length ≤ 50000)
    (step : ∀ (i : Nat) (x : PyData), xs[i]? = some x → ∃ ρ' js, (∀ j ∈ js, j ∈ own.map (·.2)) ∧ (∀ s H C cl fp, GV (Blk X scope s H C cl fp) p tg x ρ1 ρ' js) ∧ (∀ s H C cl fp, RTs (Blk X scope s H C cl fp) p ifs ρ' (g x)) ∧ Wk ρ' ρ1 ∧
      (g x = true → ∃ ρ'', (∀ s H C cl fp, RV (Blk X scope s H C cl fp) p elt ρ' (.da (f x)) ρ'') ∧ Wk ρ'' ρ1))
    (hφ : ∀ j ∈ own.map (·.2), p.φ j = none := by exact fun _ _ => rfl) (hs : ∀ x, foldedSetIterable iter X.env x = pure x := by intro _; rfl) : RC X p (.ListComp elt [⟨tg, iter, ifs, 0⟩] scope pos) ρ (.li ((xs.filter g).map f)) ρ1 := by
  have key := rc_lc (pos := pos) (X := X) (p := p) (elt := elt) (ifs := ifs) (own := own) (inv := fun _ => ρ1) (acc := fun i => ((xs.take i).filter g).map f) hc hN h ok h0.symm rfl (fun i j hj d e => by
      have e' : (wipeR ρ1 (own.map (·.2)))[j]? = some (some d) := by
        rw [h0]
        exact e
      exact wipeR_none e' hj) hφ (fun i _ => by
      rw [List.length_map]
      have h1 := List.length_filter_le g (xs.take i)
      have h2 : (xs.take i).length ≤ xs.length := by
        rw [List.length_take]
        omega
      omega) (fun i x hx => by
      obtain ⟨ρ', js, h1, h2, h3, h4, h5⟩ := step i x hx
      refine ⟨ρ', js, g x, h1, h2, h3, ?_⟩
      have et : xs.take (i + 1) = xs.take i ++ [x] := by
        rw [List.take_add_one, hx]
        rfl
      cases hg : g x with
      | true =>
        obtain ⟨ρ'', h6, h7⟩ := h5 hg
        refine .inl ⟨rfl, f x, ρ'', h6, h7, ?_⟩
        show ((xs.take (i + 1)).filter g).map f = _
        rw [et, List.filter_append, List.map_append]
        simp [hg]
      | false =>
        refine .inr ⟨rfl, h4, ?_⟩
        show ((xs.take (i + 1)).filter g).map f = _
        rw [et, List.filter_append, List.map_append]
        simp [hg]) hs
  rw [List.take_length] at key
  exact key
/-- [elt for tg in iter] -/
theorem rc_map {scope : Scope} {own : List (Str × Nat)} (f : PyData → PyData) (hc : X.calm = true) (hN : X.N.Nodup) (h : IV X p tg iter ρ xs ρ1) (ok : BlkOk X.N X.env.scope scope own)
    (h0 : wipeR ρ1 (own.map (·.2)) = ρ1) (hlen : xs.length ≤ 50000)
    (step : ∀ (i : Nat) (x : PyData), xs[i]? = some x → ∃ ρ' js, (∀ j ∈ js, j ∈ own.map (·.2)) ∧ (∀ s H C cl fp, GV (Blk X scope s H C cl fp) p tg x ρ1 ρ' js) ∧ Wk ρ' ρ1 ∧
      ∃ ρ'', (∀ s H C cl fp, RV (Blk X scope s H C cl fp) p elt ρ' (.da (f x)) ρ'') ∧ Wk ρ'' ρ1)
    (hφ : ∀ j ∈ own.map (·.2), p.φ j = none := by exact fun _ _ => rfl) (hs : ∀ x, foldedSetIterable iter X.env x = pure x := by intro _; rfl) : RC X p (.ListComp elt [⟨tg, iter, [], 0⟩] scope pos) ρ (.li (xs.map f)) ρ1 := by
  have := rc_filmap (pos := pos) (X := X) (p := p) (elt := elt) (fun _ => true) f hc hN h ok h0 hlen (fun i x hx => by
    obtain ⟨ρ', js, h1, h2, h3, h4⟩ := step i x hx
    exact ⟨ρ', js, h1, h2, fun _ _ _ _ _ => rts_nil, h3, fun _ => h4⟩) hφ hs
  rwa [List.filter_eq_self.mpr fun _ _ => rfl] at this
theorem rv_map {scope : Scope} {own : List (Str × Nat)} (f : PyData → PyData) (hc : X.calm = true) (hN : X.N.Nodup) (h : IV X p tg iter ρ xs ρ1) (ok : BlkOk X.N X.env.scope scope own)
    (h0 : wipeR ρ1 (own.map (·.2)) = ρ1) (hlen : xs.length ≤ 50000)
    (step : ∀ (i : Nat) (x : PyData), xs[i]? = some x → ∃ ρ' js, (∀ j ∈ js, j ∈ own.map (·.2)) ∧ (∀ s H C cl fp, GV (Blk X scope s H C cl fp) p tg x ρ1 ρ' js) ∧ Wk ρ' ρ1 ∧
      ∃ ρ'', (∀ s H C cl fp, RV (Blk X scope s H C cl fp) p elt ρ' (.da (f x)) ρ'') ∧ Wk ρ'' ρ1)
    (hφ : ∀ j ∈ own.map (·.2), p.φ j = none := by exact fun _ _ => rfl) (hs : ∀ x, foldedSetIterable iter X.env x = pure x := by intro _; rfl) : RV X p (.ListComp elt [⟨tg, iter, [], 0⟩] scope pos) ρ (.li (xs.map f)) ρ1 := (rc_map f hc hN h ok h0 hlen step hφ hs).rv
theorem calm_D {P : Program} {w0 : World} {K : PySem.W.Frag} {mg : Str → Option Value} {base : Heap} {N : List Str} {qual : Str} {st : Stmt} {f : Addr} {cdv : Value} {A : Around} {outer : List Env} {s : Shared} {H : Hp} {E : XK} : (CxD P w0 K mg base N qual st f cdv A outer s H E).calm = true := rfl
theorem takes_D {P : Program} {w0 : World} {K : PySem.W.Frag} {mg : Str → Option Value} {base : Heap} {N : List Str} {qual : Str} {st : Stmt} {f : Addr} {cdv : Value} {A : Around} {outer : List Env} {s : Shared} {H : Hp} {E : XK} :
    Takes (CxD P w0 K mg base N qual st f cdv A outer s H E) (fun cls d _ H => E cls d H) := takes_of rfl rfl rfl rfl
theorem takes_L {A : Around} {outer : List Env} {s : Shared} {H : Hp} {E : XK} {scope : Scope} {f c' : Addr} : Takes (LamX.lamCx X A outer s H E scope f c') (fun cls d _ H => E cls d H) := takes_of rfl rfl rfl rfl

/-! ### a body that ends as oc says -/
def RSf (X : Cx) (p : Pm) (er : Er) (sts : List Stmt) (ρ : Rho) (oc : Oc) : Prop := ∃ so, RSs X p er sts ρ so ∧ Fin oc so
theorem rf_cons {st : Stmt} {sts : List Stmt} {oc : Oc} (h : RS X p er st ρ (.nx ρ1)) (t : RSf X p er sts ρ1 oc) : RSf X p er (st :: sts) ρ oc := by
  obtain ⟨so, t, f⟩ := t
  exact ⟨so, rss_cons h t, f⟩
theorem rf_nil : RSf X p er [] ρ (.ret (.da .none)) := ⟨_, rss_nil, .nx⟩
theorem rf_ret {sts : List Stmt} {x : PyData} (h : RV X p e ρ (.da x) ρ1) : RSf X p er (.Return (some e) pos :: sts) ρ (.ret (.da x)) := ⟨_, rss_stop (rs_ret h), .da⟩
theorem rf_retL {sts : List Stmt} (h : RV X p e ρ (.li xs) ρ1) : RSf X p er (.Return (some e) pos :: sts) ρ (.ret (.li xs)) := ⟨_, rss_stop (rs_ret h), .li⟩
theorem rf_retS {sts : List Stmt} {i : Nat} (h : RV X p e ρ (.sl i) ρ1) (hi : ρ1[i]? = some (oo xs)) : RSf X p er (.Return (some e) pos :: sts) ρ (.ret (.li xs)) := ⟨_, rss_stop (rs_ret h), .sl hi⟩
theorem rf_er {st : Stmt} {sts : List Stmt} {nm : Xn} (h : RS X p er st ρ (.er nm)) : RSf X p er (st :: sts) ρ (.err nm) := ⟨_, rss_stop h, .er⟩
/-- the branch that is taken ends the body -/
theorem rf_ifT {body orelse sts : List Stmt} {oc : Oc} {c : Expr} (hc : RT X p c ρ true ρ1) (h : ∃ so, RSs X p er body ρ1 so ∧ Fin oc so ∧ ∀ ρ', so ≠ .nx ρ') : RSf X p er (.If c body orelse pos :: sts) ρ oc := by
  obtain ⟨so, h, f, hn⟩ := h
  exact ⟨so, rss_stop (rs_if hc (fun _ => h) (fun z => by cases z)) hn, f⟩
theorem rf_ifF {body orelse sts : List Stmt} {oc : Oc} {c : Expr} (hc : RT X p c ρ false ρ1) (h : RSf X p er (orelse ++ sts) ρ1 oc) (ho : orelse = []) : RSf X p er (.If c body orelse pos :: sts) ρ oc := by
  subst ho
  exact rf_cons (rs_if hc (fun z => by cases z) (fun _ => rss_nil)) h

/-! ### what a law's text tells of a def -/
structure FT (K : PySem.W.Frag) (mg : Str → Option Value) (n : Str) (st : Stmt) (ps : List Str) (kbs : List (List Str × List Nat) := []) : Prop where
  ex : ∃ f fd, Fun K n n st f fd ∧ mg n = some (.ref f) ∧ Binds K fd ps [] ∧ ∀ q ∈ kbs, KB0 K fd ps q.1 q.2
theorem df_of {P : Program} {w0 : World} {K : PySem.W.Frag} {mg : Str → Option Value} {base : Heap} {n : Str} {st : Stmt} {ps : List Str} {kbs : List (List Str × List Nat)} {k : Nat} {sp : Sp} (F : FT K mg n st ps kbs) (h : ∀ f fd, Fun K n n st f fd → FnOk P w0 K mg base (L2.CX P w0) k f fd ps sp) : Df P w0 K mg base n k ps sp kbs := by
  obtain ⟨f, fd, F1, hm, hb, hk⟩ := F.ex
  exact ⟨f, fd, h f fd F1, hm, F1.kp, hb, hk⟩
def isI : PyData → Bool
  | .int _ => true
  | .bool _ => true
  | _ => false
def isB : PyData → Bool
  | .bool _ => true
  | _ => false
def isT : PyData → Bool
  | .tuple _ => true
  | _ => false
def isS : PyData → Bool
  | .str _ => true
  | _ => false
theorem kb_int : ∀ z : PyData, kitB (tyD z) "int" = some (isI z)
  | .none => (by decide +kernel : kitB "NoneType" "int" = some false)
  | .bool _ => (by decide +kernel : kitB "bool" "int" = some true)
  | .int _ => (by decide +kernel : kitB "int" "int" = some true)
  | .str _ => (by decide +kernel : kitB "str" "int" = some false)
  | .list _ => (by decide +kernel : kitB "list" "int" = some false)
  | .tuple _ => (by decide +kernel : kitB "tuple" "int" = some false)
  | .dict _ => (by decide +kernel : kitB "dict" "int" = some false)
theorem kb_bool : ∀ z : PyData, kitB (tyD z) "bool" = some (isB z)
  | .none => (by decide +kernel : kitB "NoneType" "bool" = some false)
  | .bool _ => (by decide +kernel : kitB "bool" "bool" = some true)
  | .int _ => (by decide +kernel : kitB "int" "bool" = some false)
  | .str _ => (by decide +kernel : kitB "str" "bool" = some false)
  | .list _ => (by decide +kernel : kitB "list" "bool" = some false)
  | .tuple _ => (by decide +kernel : kitB "tuple" "bool" = some false)
  | .dict _ => (by decide +kernel : kitB "dict" "bool" = some false)
theorem kb_tuple : ∀ z : PyData, kitB (tyD z) "tuple" = some (isT z)
  | .none => (by decide +kernel : kitB "NoneType" "tuple" = some false)
  | .bool _ => (by decide +kernel : kitB "bool" "tuple" = some false)
  | .int _ => (by decide +kernel : kitB "int" "tuple" = some false)
  | .str _ => (by decide +kernel : kitB "str" "tuple" = some false)
  | .list _ => (by decide +kernel : kitB "list" "tuple" = some false)
  | .tuple _ => (by decide +kernel : kitB "tuple" "tuple" = some true)
  | .dict _ => (by decide +kernel : kitB "dict" "tuple" = some false)
theorem kb_str : ∀ z : PyData, kitB (tyD z) "str" = some (isS z)
  | .none => (by decide +kernel : kitB "NoneType" "str" = some false)
  | .bool _ => (by decide +kernel : kitB "bool" "str" = some false)
  | .int _ => (by decide +kernel : kitB "int" "str" = some false)
  | .str _ => (by decide +kernel : kitB "str" "str" = some true)
  | .list _ => (by decide +kernel : kitB "list" "str" = some false)
  | .tuple _ => (by decide +kernel : kitB "tuple" "str" = some false)
  | .dict _ => (by decide +kernel : kitB "dict" "str" = some false)
theorem cv_allM {g : PyData → Bool} (hc : X.calm = true) : CalV X p (.builtin "all") [.li (xs.map fun x => .bool (g x))] ρ (.da (.bool (xs.all g))) := by
  have h := cv_all (X := X) (p := p) (ρ := ρ) (r := .li (xs.map fun x => .bool (g x))) (bs := xs.map g) hc (by
    rw [List.map_map]
    exact .li)
  rw [List.all_map] at h
  exact h
theorem cv_anyM {g : PyData → Bool} (hc : X.calm = true) : CalV X p (.builtin "any") [.li (xs.map fun x => .bool (g x))] ρ (.da (.bool (xs.any g))) := by
  have h := cv_any (X := X) (p := p) (ρ := ρ) (r := .li (xs.map fun x => .bool (g x))) (bs := xs.map g) hc (by
    rw [List.map_map]
    exact .li)
  rw [List.any_map] at h
  exact h
end
end Dn

set_option Elab.async false
set_option linter.all false
set_option maxRecDepth 100000
set_option maxHeartbeats 1000000
/-! the head's facts for the data layer -/
namespace Dn
open PySem PySem.Spec PyProof.Rows L2
/-! ### own exceptions in a head -/
def oexB (K : PySem.W.Frag) (C : Addr) : Bool := match K.lookup C with
  | some ⟨.type "type", _, .cls cd, sl⟩ => (match cd.mro, sl.toList with
    | .ref C' :: bm, [_, _, _, _, some (.builtin n), _] => C' == C && (n == "ValueError.__new__" && (!cd.hasDel && (cd.hasDict && PySem.HandSPX.refsVE bm)))
    | _, _ => false)
  | _ => false
theorem oexB_ok {K : PySem.W.Frag} {C : Addr} (q : oexB K C = true) : ∃ nm q N bs bm sn sub ab col dd k0 k1 k2 k3 k5, K.lookup C = some (excClassObj nm q C N bs bm true sn sub ab col dd k0 k1 k2 k3 k5 "ValueError.__new__") ∧ PySem.HandSPX.refsVE bm = true := by
  unfold oexB at q
  split at q
  · rename_i dd cd sl ho
    split at q
    · rename_i C' bm k0 k1 k2 k3 n k5 hm hs
      simp only [Bool.and_eq_true, beq_iff_eq, Bool.not_eq_true'] at q
      obtain ⟨rfl, rfl, hdel, hdc, ht⟩ := q
      obtain ⟨nm, bs, mro, ns, qn, hd, sn, sub, ab, col, del⟩ := cd
      dsimp only at hm hdel hdc
      subst hm hdel hdc
      have hsl : sl = #[k0, k1, k2, k3, some (.builtin "ValueError.__new__"), k5] := by
        obtain ⟨l⟩ := sl
        simp only at hs
        rw [hs]
      subst hsl
      exact ⟨nm, qn, ns, bs, bm, sn, sub, ab, col, dd, k0, k1, k2, k3, k5, ho, ht⟩
    · cases q
  · cases q
abbrev ExO : Type := Option (Str × Str × Arguments × FuncBody × Scope × Addr × List Str × Value × Addr)
def exF (K : PySem.W.Frag) (x : Str) : Addr := He.ma K (He.ga K x) "__init__"
def exOb (K : PySem.W.Frag) (x : Str) : ExO := match K.lookup (exF K x) with
  | some ⟨_, _, .func fd, _⟩ => some (fd.name, fd.qualname, fd.params, fd.body, fd.scope, fd.globals, fd.closure.map (·.1), fd.defaults, fd.builtins)
  | _ => none
structure ExD where
  x : Str
  fl : Str
  qual : Str
  file : Str
  params : Arguments
  body : List Stmt
  scope : Scope
def ExD.val (d : ExD) : ExO := some ("__init__", d.qual, d.params, .stmts d.body, d.scope, mainGlobals, ["__class__"], .none, builtinsNs)
def ExD.celB (K : PySem.W.Frag) (C cc : Addr) : Bool := match K.lookup cc with
  | some ⟨_, _, .cell (some (.ref C')), _⟩ => C' == C
  | _ => false
def ExD.codB (K : PySem.W.Frag) (file : Str) (ca : Addr) : Bool := match K.lookup ca with
  | some ⟨_, _, .fields vs, _⟩ => (match (vs[2]? : Option Value) with
    | some (.str f _) => file == f
    | _ => false)
  | _ => false
def ExD.fcB (K : PySem.W.Frag) (d : ExD) (cl : List (Str × Addr)) (cd : Value) : Bool := match cl, cd with
  | [(_, cc)], .ref ca => ExD.celB K (He.ga K d.x) cc && (ExD.codB K d.file ca && PySem.W.codeIn K (.ref ca) d.qual)
  | _, _ => false
def ExD.fnB (K : PySem.W.Frag) (d : ExD) : Bool := match K.lookup (exF K d.x) with
  | some ⟨_, _, .func fd, _⟩ => d.fcB K fd.closure fd.code
  | _ => false
theorem fcB_ok {K : PySem.W.Frag} {d : ExD} {cl : List (Str × Addr)} {cd : Value} (h : d.fcB K cl cd = true) : ∃ nm cc ca, cl = [(nm, cc)] ∧ cd = .ref ca ∧ ExD.celB K (He.ga K d.x) cc = true ∧ ExD.codB K d.file ca = true ∧ PySem.W.codeIn K (.ref ca) d.qual = true := by
  unfold ExD.fcB at h
  split at h
  · obtain ⟨a1, a2⟩ := He.ba h
    obtain ⟨a2, a3⟩ := He.ba a2
    exact ⟨_, _, _, rfl, rfl, a1, a2, a3⟩
  · cases h
def ExD.ok (K : PySem.W.Frag) (d : ExD) : Bool :=
  He.eqO (PySem.W.nsIn K mainGlobals d.x) (some (some (.ref (He.ga K d.x)))) && (oexB K (He.ga K d.x) && (He.eqO (PySem.W.findIn K (.ref (He.ga K d.x)) "__setattr__") (some (some (.builtin "object.__setattr__"))) && (xfB K (He.ga K d.x) &&
    (decide (PySem.W.typeIn K (.ref (He.ga K d.x)) = some (.type "type")) && (PySem.W.keepIn K (.ref (He.ga K d.x)) && ((PySem.W.clsIn K (He.ga K d.x)).isSome && (He.eqO (PySem.W.ks_superIn K (He.ga K d.x) (He.ga K d.x) "__init__") (some (some (.builtin "ValueError.__init__"))) &&
    (decide (PySem.W.subIn K (.ref (He.ga K d.x)) (.type "ValueError") = some true) && (He.eqO (PySem.W.nsIn K cStatics "thirdparty.any") (some none) && (decide (PySem.W.mroIn K (He.ga K d.x) (.ref (He.ga K d.x)) = some true) &&
    (He.eqO (PySem.W.findIn K (.ref (He.ga K d.x)) d.fl) (some none) && (He.eqO (PySem.W.findIn K (.ref (He.ga K d.x)) "__init__") (some (some (.ref (exF K d.x)))) && (decide (PySem.W.typeIn K (.ref (exF K d.x)) = some (.type "function")) &&
    (decide (PySem.W.exmOne K (.ref (He.ga K d.x)) (.ref (He.ga K d.x)) = some true) && d.fnB K))))))))))))))
structure ExS (K : PySem.W.Frag) (d : ExD) : Prop where
  ob : exOb K d.x = d.val
  okB : d.ok K = true
theorem ExS.all {K : PySem.W.Frag} {d : ExD} (s : ExS K d) : He.eqO (PySem.W.nsIn K mainGlobals d.x) (some (some (.ref (He.ga K d.x)))) = true ∧ oexB K (He.ga K d.x) = true ∧ He.eqO (PySem.W.findIn K (.ref (He.ga K d.x)) "__setattr__") (some (some (.builtin "object.__setattr__"))) = true ∧ xfB K (He.ga K d.x) = true ∧
    PySem.W.typeIn K (.ref (He.ga K d.x)) = some (.type "type") ∧ PySem.W.keepIn K (.ref (He.ga K d.x)) = true ∧ (PySem.W.clsIn K (He.ga K d.x)).isSome = true ∧ PySem.W.ks_superIn K (He.ga K d.x) (He.ga K d.x) "__init__" = some (some (.builtin "ValueError.__init__")) ∧
    PySem.W.subIn K (.ref (He.ga K d.x)) (.type "ValueError") = some true ∧ PySem.W.nsIn K cStatics "thirdparty.any" = some none ∧ PySem.W.mroIn K (He.ga K d.x) (.ref (He.ga K d.x)) = some true ∧
    PySem.W.findIn K (.ref (He.ga K d.x)) d.fl = some none ∧ PySem.W.findIn K (.ref (He.ga K d.x)) "__init__" = some (some (.ref (exF K d.x))) ∧ PySem.W.typeIn K (.ref (exF K d.x)) = some (.type "function") ∧
    PySem.W.exmOne K (.ref (He.ga K d.x)) (.ref (He.ga K d.x)) = some true ∧ d.fnB K = true := by
  have h := s.okB
  unfold ExD.ok at h
  obtain ⟨h1, h⟩ := He.ba h
  obtain ⟨h2, h⟩ := He.ba h
  obtain ⟨h3, h⟩ := He.ba h
  obtain ⟨h4, h⟩ := He.ba h
  obtain ⟨h5, h⟩ := He.ba h
  obtain ⟨h6, h⟩ := He.ba h
  obtain ⟨h7, h⟩ := He.ba h
  obtain ⟨h8, h⟩ := He.ba h
  obtain ⟨h9, h⟩ := He.ba h
  obtain ⟨h10, h⟩ := He.ba h
  obtain ⟨h11, h⟩ := He.ba h
  obtain ⟨h12, h⟩ := He.ba h
  obtain ⟨h13, h⟩ := He.ba h
  obtain ⟨h14, h⟩ := He.ba h
  obtain ⟨h15, h16⟩ := He.ba h
  exact ⟨h1, h2, h3, h4, of_decide_eq_true h5, h6, h7, He.eqO_ok h8, of_decide_eq_true h9, He.eqO_ok h10, of_decide_eq_true h11, He.eqO_ok h12, He.eqO_ok h13, of_decide_eq_true h14, of_decide_eq_true h15, h16⟩
theorem cel_ok {K : PySem.W.Frag} {C cc : Addr} (h : ExD.celB K C cc = true) : ∃ a b c, K.lookup cc = some ⟨a, b, .cell (some (.ref C)), c⟩ := by
  unfold ExD.celB at h
  split at h
  · rename_i a b C' c e
    rw [beq_iff_eq.mp h] at e
    exact ⟨a, b, c, e⟩
  · cases h
theorem cod_ok {K : PySem.W.Frag} {file : Str} {ca : Addr} (h : ExD.codB K file ca = true) : ∃ a b c vs f tf, K.lookup ca = some ⟨a, b, .fields vs, c⟩ ∧ vs[2]? = some (.str f tf) ∧ (file == f) = true := by
  unfold ExD.codB at h
  split at h
  · rename_i a b vs c e
    split at h
    · rename_i f tf e2
      exact ⟨a, b, c, vs, f, tf, e, e2, h⟩
    · cases h
  · cases h
theorem exs_fn {K : PySem.W.Frag} {d : ExD} (s : ExS K d) : ∃ cc ca kV doc pm an ct a b c, K.lookup (exF K d.x) = some ⟨a, b, .func (PySem.W.ksFn "__init__" d.qual d.params d.body d.scope .none kV doc pm an (.ref ca) ct cc), c⟩ ∧
    ExD.celB K (He.ga K d.x) cc = true ∧ ExD.codB K d.file ca = true ∧ PySem.W.codeIn K (.ref ca) d.qual = true := by
  have h := s.all.2.2.2.2.2.2.2.2.2.2.2.2.2.2.2
  have e := s.ob
  unfold ExD.fnB at h
  unfold exOb at e
  cases q : K.lookup (exF K d.x) with
  | none =>
    rw [q] at h
    cases h
  | some o =>
    obtain ⟨oc, od, dt, osl⟩ := o
    rw [q] at h e
    cases dt with
    | func fd =>
      obtain ⟨n1, n2, n3, n4, n5, n6, n7, n8, n9, n10, n11, n12, n13, n14, n15⟩ := fd
      have e2 : (some (n1, n2, n3, n4, n5, n6, n7.map (·.1), n8, n15) : ExO) = (some ("__init__", d.qual, d.params, .stmts d.body, d.scope, mainGlobals, ["__class__"], .none, builtinsNs) : ExO) := e
      simp only [Option.some.injEq, Prod.mk.injEq] at e2
      obtain ⟨h1, h2, h3, h4, h5, h6, h7, h8, h9⟩ := e2
      subst h1 h2 h3 h4 h5 h6 h8 h9
      obtain ⟨nm, cc, ca, rfl, rfl, a1, a2, a3⟩ := fcB_ok (show d.fcB K n7 n13 = true from h)
      have en : nm = "__class__" := (List.cons.inj h7).1
      subst en
      exact ⟨cc, ca, _, _, _, _, _, _, _, _, rfl, a1, a2, a3⟩
    | _ => cases h
theorem exs_xf {K : PySem.W.Frag} {d : ExD} (s : ExS K d) : XfC K (He.ga K d.x) := xfB_ok s.all.2.2.2.1
theorem exs_oex {K : PySem.W.Frag} {d : ExD} (s : ExS K d) : OexC K (He.ga K d.x) := by
  obtain ⟨h1, h2, h3, h4, h5, h6, _⟩ := s.all
  exact ⟨oexB_ok h2, He.eqO_ok h3, (xfB_ok h4).exC, h5, h6⟩
theorem exs_g {K : PySem.W.Frag} {d : ExD} {h : Heap} {mg : Str → Option Value} (X : K.In h) (G : h.Ns mainGlobals mg) (s : ExS K d) : mg d.x = some (.ref (He.ga K d.x)) := PySem.W.mg_of X G (He.eqO_ok s.all.1)
/-- all that a class's raise leans on -/
theorem ert_of {P : Program} {K : PySem.W.Frag} {h : Heap} {mg : Str → Option Value} {x fl qual file : Str} {params : Arguments} {body : List Stmt} {scope : Scope} (X : K.In h) (G : h.Ns mainGlobals mg) (s : ExS K ⟨x, fl, qual, file, params, body, scope⟩)
    (hf : P.main.file = file) (top : (P.main.scope.names.lookup ("super" : Str)).isSome = false) (ms : mg "super" = none) (hS : scope = Sx.eScope fl)
    (hT : ∃ q0 q1 p0 p1 p2 p3 p4 p5 p6 p7 p8 p9, params = Sx.eArgs fl q0 q1 ∧ body = Sx.eBody fl p0 p1 p2 p3 p4 p5 p6 p7 p8 p9 ∧ Sx.SupCall fl p0 p1 p2 p3 p4)
    (hb : ∀ (kV doc pm : Value) (an : Option Addr) (ca ct : Value) (cc : Addr) (us : List Value), us.length = 2 → bindArgs (PySem.W.ksFn "__init__" qual params body scope .none kV doc pm an ca ct cc) ⟨us, []⟩ = pure ((["self", fl] : List Str).zip us))
    (n1 : fl ≠ "self") (n2 : fl ≠ "super") (n3 : fl ≠ "__class__") (nd : (fl == ("__debug__" : Str)) = false) (nc : (fl == ("__classdict__" : Str)) = false) : ErT P K mg x (He.ga K x) fl := by
  obtain ⟨cc, ca, kV, doc, pm, an, ct, a, b, c, lk, c1, c2, c3⟩ := exs_fn s
  obtain ⟨h1, h2, h3, h4, h5, h6, h7, h8, h9, h10, h11, h12, h13, h14, h15, _⟩ := s.all
  obtain ⟨q0, q1, p0, p1, p2, p3, p4, p5, p6, p7, p8, p9, e1, e2, e3⟩ := hT
  obtain ⟨ca1, ca2, ca3, vs, f, tf, d1, d2, d3⟩ := cod_ok c2
  refine ⟨⟨qual, exF K x, cc, ca, _, ⟨exs_oex s, Option.isSome_iff_exists.mp h7, h8, h9, h10, h11, cel_ok c1, ⟨ca1, ca2, ca3, vs, f, tf, d1, d2, by rw [hf]; exact d3⟩, top, h12, h13, h14, ms, ⟨q0, q1, p0, p1, p2, p3, p4, p5, p6, p7, p8, p9, kV, doc, pm, an, ct, a, b, c, rfl, ?_, e3⟩, c3⟩, ?_⟩, exs_g X G s, n1, n2, n3, nd, nc⟩
  · subst e1 e2 hS
    exact lk
  · subst e1 e2 hS
    exact .all fun us hl => hb kV doc pm an (.ref ca) ct cc us hl
/-! ### the Hook -/
/-- no address twice -/
def ndB : List Addr → Bool
  | [] => true
  | a :: r => r.all (fun b => !(a == b)) && ndB r
theorem ndB_ok : ∀ {l : List Addr}, ndB l = true → l.Nodup
  | [], _ => List.nodup_nil
  | a :: r, h => by
    obtain ⟨h1, h2⟩ := He.ba (show ((r.all fun b => !(a == b)) && ndB r) = true from h)
    refine List.nodup_cons.mpr ⟨fun hm => ?_, ndB_ok h2⟩
    have := List.all_eq_true.mp h1 a hm
    simp at this
abbrev AlY : Type := He.AlD × List ExO × Bool
def asY (g : Addr → Option Obj) (n : Nat) : List Addr := cStatics :: He.asD g n
def obsY (n : Nat) (fa : List He.Fa) (fn : List He.DefD) (tf : List He.Defn) (ex : List ExD) (g : Addr → Option Obj) : AlY :=
  (He.obsD fa fn (He.frT g (asY g n)), ex.map fun d => exOb (He.frT g (asY g n)) d.x, (ex.all fun d => d.ok (He.frT g (asY g n))) && (He.tabsB g tf (He.frT g (asY g n)) && ndB (tf.map fun p => (He.cT (He.frT g (asY g n)) p).2)))
def valY (fn : List He.DefD) (ex : List ExD) : AlY := (He.valD fn, ex.map ExD.val, true)
structure SaysY (fa : List He.Fa) (fn : List He.DefD) (tf : List He.Defn) (ex : List ExD) (h : Heap) (K : PySem.W.Frag) : Prop where
  t : He.SaysD fa fn K
  exs : ∀ d ∈ ex, ExS K d
  hd : ∀ p ∈ tf, PySem.W.codeHdIn K (He.cT K p).1 (He.cT K p).2 = true
  out : ∀ p ∈ tf, K.lookup (He.cT K p).2 = none
  empty : ∀ p ∈ tf, h.get? (He.cT K p).2 = some { cls := .none, data := .fields #[] }
  nd : (tf.map fun p => (He.cT K p).2).Nodup
theorem map_all {α β : Type} {f g : α → β} : ∀ {l : List α}, l.map f = l.map g → ∀ x ∈ l, f x = g x
  | [], _, x, h => by cases h
  | a :: r, e, x, h => by
    obtain ⟨e1, e2⟩ := List.cons.inj (show f a :: r.map f = g a :: r.map g from e)
    rcases List.mem_cons.mp h with rfl | h
    · exact e1
    · exact map_all e2 x h
theorem saysY_of {n : Nat} {fa : List He.Fa} {fn : List He.DefD} {tf : List He.Defn} {ex : List ExD} {h : Heap} (e : obsY n fa fn tf ex h.get? = valY fn ex) : SaysY fa fn tf ex h (He.frT h.get? (asY h.get? n)) := by
  have e1 : He.obsD fa fn (He.frT h.get? (asY h.get? n)) = He.valD fn := congrArg (fun z : AlY => z.1) e
  have e2 : (ex.map fun d => exOb (He.frT h.get? (asY h.get? n)) d.x) = ex.map ExD.val := congrArg (fun z : AlY => z.2.1) e
  have e3 : ((ex.all fun d => d.ok (He.frT h.get? (asY h.get? n))) && (He.tabsB h.get? tf (He.frT h.get? (asY h.get? n)) && ndB (tf.map fun p => (He.cT (He.frT h.get? (asY h.get? n)) p).2))) = true := congrArg (fun z : AlY => z.2.2) e
  obtain ⟨h1, h20⟩ := He.ba e3
  obtain ⟨h2, h5⟩ := He.ba h20
  have key : ∀ p ∈ tf, PySem.W.codeHdIn (He.frT h.get? (asY h.get? n)) (He.cT (He.frT h.get? (asY h.get? n)) p).1 (He.cT (He.frT h.get? (asY h.get? n)) p).2 = true ∧ ∃ o, h.get? (He.cT (He.frT h.get? (asY h.get? n)) p).2 = some o ∧ He.emptyTab o = true := fun p hp => by
    obtain ⟨h3, h4⟩ := He.ba (List.all_eq_true.mp h2 p hp)
    refine ⟨h3, ?_⟩
    cases q : h.get? (He.cT (He.frT h.get? (asY h.get? n)) p).2 with
    | none =>
      rw [q] at h4
      cases h4
    | some o =>
      rw [q] at h4
      exact ⟨o, rfl, h4⟩
  exact ⟨e1, fun d hd => ⟨map_all e2 d hd, List.all_eq_true.mp h1 d hd⟩, fun p hp => (key p hp).1, fun p hp => by
    obtain ⟨_, o, q, z⟩ := key p hp
    exact He.frT_none q z, fun p hp => by
    obtain ⟨_, o, q, z⟩ := key p hp
    rw [q, He.emptyTab_eq z], ndB_ok h5⟩
def hookY (n : Nat) (fa : List He.Fa) (fn : List He.DefD) (tf : List He.Defn) (ex : List ExD) : PySem.W.Hook where
  α := AlY
  obs := fun s => obsY n fa fn tf ex s.heap.get?
  val := fun _ => valY fn ex
  says := fun _ h => ∃ K : PySem.W.Frag, K.In h ∧ SaysY fa fn tf ex h K
  of := fun _ _ e => ⟨_, He.frT_in, saysY_of e⟩
  keeps := fun _ _ _ ⟨K, hK, c⟩ k => ⟨K, PySem.W.Frag.In.keeps hK k, ⟨c.t, c.exs, c.hd, c.out, fun p hp => k _ _ (c.empty p hp), c.nd⟩⟩
theorem obsY_eq {n : Nat} {fa : List He.Fa} {fn : List He.DefD} {tf : List He.Defn} {ex : List ExD} {g : Addr → Option Obj} {s : Shared} (h : ∀ a, g a = s.heap.get? a) : obsY n fa fn tf ex g = (hookY n fa fn tf ex).obs s := by
  have e : g = s.heap.get? := funext h
  rw [e] <;> rfl
/-! ### defs -/
def ddOf (x : Str) (st : Stmt) : He.DefD := ⟨(x, none), x, x, defArgs st, defBody st, defScope st, [], []⟩
theorem fun_of {K : PySem.W.Frag} {x : Str} {st : Stmt} {f : Addr} {fd : FuncData} (F : FunD K x x (defArgs st) (defBody st) (defScope st) [] [] f fd) : Fun K x x st f fd := by
  obtain ⟨⟨oc, od, dV, kV, doc, pm, an, cdv, ct, osl, e, lk, c, hd, _⟩, kp⟩ := F
  rcases hd with ⟨_, rfl⟩ | ⟨h, _⟩
  · exact ⟨⟨oc, od, kV, doc, pm, an, cdv, ct, osl, e, lk, c⟩, kp⟩
  · exact absurd rfl h
theorem says_fun {fa : List He.Fa} {fn : List He.DefD} {K : PySem.W.Frag} (c : He.SaysD fa fn K) (i : Nat) {x : Str} {st : Stmt} (h : fn[i]? = some (ddOf x st)) : ∃ fd, Fun K x x st (He.ga K x) fd := by
  obtain ⟨fd, F⟩ := c.def_ i h
  exact ⟨fd, fun_of F⟩
def noT (H : Hp) : Hp := fun b => match H b with
  | some (.tbl _) => none
  | o => o
/-- the promise's start -/
theorem spP_start {K : PySem.W.Frag} {T : List (Addr × Str)} {C : Addr} {fl : Str} {S : List PyData → Oc → Prop} {H : Hp} {a : Addr} {ns : List Int} (hT : ∀ p ∈ T, H p.1 = some (.tbl #[])) (hs : SqL K H a (ns.map V.int)) (hS : S [.list (ns.map .int)] (.ret (.da (.bool true)))) :
    spP K T C fl S [.ref a] H (fun v _ => v = .bl true) fun _ _ _ => False := by
  have hB : Same (noT H) H := fun b o e => by
    unfold noT at e
    split at e
    · cases e
    · exact e
  refine ⟨_, _, noT H, hS, hB, fun p hp => ⟨#[], hT p hp, trivial, fun pos cv e => by cases e⟩, fun b ps e => ?_, .cons (.lst ?_ (dpa_of_ints ns)) .nil, fun v H' B' w' _ _ i => dp_bool i⟩
  · unfold noT at e
    split at e
    · cases e
    · rename_i h
      exact h _ e
  · rcases hs with (h | ⟨o, h⟩) | h
    · exact .inl (.inl (by unfold noT; rw [h]))
    · exact .inl (.inr ⟨o, by unfold noT; rw [h]⟩)
    · exact .inr h

section
variable {P : Program} {w0 : World} {K : PySem.W.Frag} {mg : Str → Option Value} {base : Heap} {T : List (Addr × Str)}
theorem ok_pureC {x : Str} {st : Stmt}  {fd : FuncData} {N ps : List Str} {k : Nat} {C : Addr} {fl : Str} {S : List PyData → Oc → Prop} (F : Fun K x x st (He.ga K x) fd) (Sc : FnScope N ps (defScope st)) (len : ∀ xs oc, S xs oc → xs.length = ps.length)
    (body : ∀ cdv A outer s H E, cdv = .ref (He.codeOf K (x, none)) → Room k (CxD P w0 K mg base N x st (He.ga K x) cdv A outer s H E).A → ∀ xs oc, S xs oc → ∃ so, RSs (CxD P w0 K mg base N x st (He.ga K x) cdv A outer s H E) ⟨T, noφ⟩ ⟨C, fl, E⟩ (defBody st) (startR N xs) so ∧ Fin oc so) :
    FnOk P w0 K mg base (L2.CX P w0) (k + 1) (He.ga K x) fd ps (spP K T C fl S) := by
  obtain ⟨oc, od, kV, doc, pm, an, cdv, ct, osl, rfl, lk, hcd⟩ := F.ex
  obtain ⟨c, rfl⟩ := He.codeIn_ref hcd
  have ec : He.codeOf K (x, none) = c := He.codeOf_eq (p := (x, none)) lk rfl
  refine fn_of lk hcd Sc (fun vs H Q E h => ?_) (fun A outer s H vs Q E hr h => ?_)
  · obtain ⟨xs, oc, B, hS, _, _, _, d, _⟩ := h
    rw [dpa_len d]
    exact len xs oc hS
  · obtain ⟨xs, oc, B, hS, sB, ht, hnt, d, post⟩ := h
    obtain ⟨so, ⟨t, pt, et⟩, fin⟩ := body (.ref c) A outer s H E (by rw [ec]) hr xs oc hS
    refine ⟨t, pt, et (L2.start N vs) H B noW (rl_start sB ht hnt d) _ ?_⟩
    cases fin with
    | nx => exact fun σ' H' B' w' st F' => post .non H' B' w' st F'.ext .non
    | da => exact fun v σ' H' B' w' st F' i => post v H' B' w' st F'.ext i
    | li => exact fun v σ' H' B' w' st F' i => post v H' B' w' st F'.ext i
    | @sl i zs ρ e =>
      intro v σ' H' B' w' st F' i1
      obtain ⟨l, us, h1, h2, h3, h4, h5⟩ := F'.own i zs e
      have i1' : σ'[i]? = some (some v) := i1
      rw [h1] at i1'
      obtain rfl : V.ref l = v := Option.some.inj (Option.some.inj i1')
      have hl : ¬ Live H l := by
        rcases st.ww l (by rw [h2]; simp) with z | z
        · exact absurd rfl z
        · exact z
      refine post (.ref l) H' B' (fun a => if a = l then none else w' a) ⟨st.bb, st.hh, st.th, st.nb, st.tb, st.nt, fun a h => ?_⟩ F'.ext ⟨l, us, rfl, hl, if_pos rfl, h3, h4, h5⟩
      by_cases ha : a = l
      · rw [if_pos ha] at h
        exact absurd rfl h
      · rw [if_neg ha] at h
        exact st.ww a h
    | er => exact fun d H' B' w' st e h => post d H' B' w' st e h
end
/-- the law's promise at the head's heap -/
theorem law_at {l : PySem.W.OpenLaw} {w : World} {mg : Str → Option Value} {fa0 : Addr} {h : Heap} {n k : Nat} {x lam : Str} {fa : List He.Fa} {fn : List He.DefD} {tf : List He.Defn} {ex : List ExD} {K : PySem.W.Frag} {C : Addr} {fl : Str} {S : List PyData → Oc → Prop} {fd : FuncData}
    (c : SaysY fa fn tf ex h K) (X : K.In h) (hl : (("law" : Str), none) ∈ tf) (hm : mg "law" = some (.ref fa0)) (hg : mg "law" = some (.ref (He.ga K "law"))) (hb : ∀ (s : Shared) (u : Value), BindsTo s fd ⟨[u], []⟩ [(x, u)])
    (hS : ∀ ns : List Int, ns.length ≤ n → S [.list (ns.map .int)] (.ret (.da (.bool true))))
    (F : ∀ base : Heap, K.In base → base.Ns mainGlobals mg → LamX.TabB base mg (He.cT K ("law", none)).1 (He.cT K ("law", none)).2 → FnOk l.prog w K mg base (L2.CX l.prog w) k (He.ga K "law") fd [x] (spP K [((He.cT K ("law", none)).2, lam)] C fl S)) :
    LamX.LawAtS l w K (L2.CX l.prog w) k n x mg fa0 h := by
  rw [hm] at hg
  cases hg
  refine ⟨fd, [He.cT K ("law", none)], _, fun p hp => ?_, fun p hp => ?_, fun p hp => ?_, hb, fun H a ns h1 _ hT hs => spP_start (fun p hp => ?_) hs (hS ns h1), fun base X1 G1 TB => F base X1 G1 (TB _ (.head _))⟩
  · rw [List.mem_singleton.mp hp]
    exact c.empty _ hl
  · rw [List.mem_singleton.mp hp]
    exact c.out _ hl
  · rw [List.mem_singleton.mp hp]
    exact PySem.W.codeHd_of_K X (c.hd _ hl)
  · rw [List.mem_singleton.mp hp]
    exact hT _ (.head _)
/-- the same, with tables of other defs too: lm names each table's code objects -/
theorem law_atN {l : PySem.W.OpenLaw} {w : World} {mg : Str → Option Value} {fa0 : Addr} {h : Heap} {n k : Nat} {x : Str} {lm : He.Defn → Str} {fa : List He.Fa} {fn : List He.DefD} {tf : List He.Defn} {ex : List ExD} {K : PySem.W.Frag} {C : Addr} {fl : Str} {S : List PyData → Oc → Prop} {fd : FuncData}
    (c : SaysY fa fn tf ex h K) (X : K.In h) (hm : mg "law" = some (.ref fa0)) (hg : mg "law" = some (.ref (He.ga K "law"))) (hb : ∀ (s : Shared) (u : Value), BindsTo s fd ⟨[u], []⟩ [(x, u)])
    (hS : ∀ ns : List Int, ns.length ≤ n → S [.list (ns.map .int)] (.ret (.da (.bool true))))
    (F : ∀ base : Heap, K.In base → base.Ns mainGlobals mg → (∀ p ∈ tf, LamX.TabB base mg (He.cT K p).1 (He.cT K p).2) → FnOk l.prog w K mg base (L2.CX l.prog w) k (He.ga K "law") fd [x] (spP K (tf.map fun p => ((He.cT K p).2, lm p)) C fl S)) :
    LamX.LawAtS l w K (L2.CX l.prog w) k n x mg fa0 h := by
  rw [hm] at hg
  cases hg
  refine ⟨fd, tf.map (He.cT K), _, fun p hp => ?_, fun p hp => ?_, fun p hp => ?_, hb, fun H a ns h1 _ hT hs => spP_start (fun p hp => ?_) hs (hS ns h1), fun base X1 G1 TB => F base X1 G1 fun p hp => TB _ (List.mem_map.mpr ⟨p, hp, rfl⟩)⟩
  · obtain ⟨q, hq, rfl⟩ := List.mem_map.mp hp
    exact c.empty _ hq
  · obtain ⟨q, hq, rfl⟩ := List.mem_map.mp hp
    exact c.out _ hq
  · obtain ⟨q, hq, rfl⟩ := List.mem_map.mp hp
    exact PySem.W.codeHd_of_K X (c.hd _ hq)
  · obtain ⟨q, hq, rfl⟩ := List.mem_map.mp hp
    exact hT _ (List.mem_map.mpr ⟨q, hq, rfl⟩)
/-- a def that makes lambdas: its code object's table -/
structure TabL (K : PySem.W.Frag) (mg : Str → Option Value) (base : Heap) (TT : List (Addr × Str)) (x lam : Str) : Prop where
  tb : LamX.TabB base mg (He.cT K (x, none)).1 (He.cT K (x, none)).2
  tt : ((He.cT K (x, none)).2, lam) ∈ TT
  one : ∀ q ∈ TT, q.1 = (He.cT K (x, none)).2 → q.2 = lam
theorem df_ofC {P : Program} {w0 : World} {K : PySem.W.Frag} {mg : Str → Option Value} {base : Heap} {n : Str} {st : Stmt} {ps : List Str} {kbs : List (List Str × List Nat)} {k : Nat} {sp : Sp} (F : FT K mg n st ps kbs) (g : mg n = some (.ref (He.ga K n))) (h : ∀ fd, Fun K n n st (He.ga K n) fd → FnOk P w0 K mg base (L2.CX P w0) k (He.ga K n) fd ps sp) : Df P w0 K mg base n k ps sp kbs := by
  obtain ⟨f, fd, F1, hm, hb, hk⟩ := F.ex
  rw [g] at hm
  cases hm
  exact ⟨He.ga K n, fd, h fd F1, g, F1.kp, hb, hk⟩
/-- a table's address tells its name -/
theorem tab_one {K : PySem.W.Frag} {tf : List He.Defn} {lm : He.Defn → Str} {p : He.Defn} (h : (tf.map fun p => (He.cT K p).2).Nodup) (hp : p ∈ tf) : ∀ q ∈ tf.map (fun p => ((He.cT K p).2, lm p)), q.1 = (He.cT K p).2 → q.2 = lm p := by
  intro q hq e
  obtain ⟨r, hr, rfl⟩ := List.mem_map.mp hq
  have e : (He.cT K r).2 = (He.cT K p).2 := e
  have : r = p := by
    clear hq
    induction tf with
    | nil => cases hp
    | cons a l ih =>
      rw [List.map_cons, List.nodup_cons] at h
      rcases List.mem_cons.mp hp with rfl | hp'
      · rcases List.mem_cons.mp hr with rfl | hr'
        · rfl
        · exact absurd (List.mem_map.mpr ⟨r, hr', e⟩) h.1
      · rcases List.mem_cons.mp hr with rfl | hr'
        · exact absurd (List.mem_map.mpr ⟨p, hp', e.symm⟩) h.1
        · exact ih h.2 hp' hr'
  rw [this]
theorem cx_false {P : Program} {w : World} {H : Hp} {s : Shared} {e : Value} {s' : Shared} (h : L2.CX P w [] H s (fun _ _ _ => False) e s') : False := by
  obtain ⟨_, _, _, _, _, _, _, _, _, _, _, _, z⟩ := h
  exact z
end Dn

set_option Elab.async false
set_option linter.all false
set_option maxRecDepth 100000
set_option maxHeartbeats 1000000
/-! zips whose last pair may still be out: what enumerate(zip(..)) and list(zip(..)) walk -/
namespace Gz
open PySem
open Sem (wp)
/-- a zip, whatever it has handed out -/
abbrev Zg (h : Heap) (z I O : Addr) (out : Value) (b : Bool) : Prop := h.get? z = some { cls := .type "zip", dict := none, data := .fields #[out, .bool b, .bool false, .ref I, .ref O], slots := #[] }
def Zo (out : Value) : Prop := out = .none ∨ ∃ T : Nat, out = rawInt (T : Int)
abbrev Pr2 (h : Heap) (T : Addr) (x y : Value) : Prop := IsTupOf2 h T x y
section
variable {prog : Program} {w : World} {A : Around} {E : Value → Shared → Prop} {s : Shared} {z I O i1 i2 : Addr} {f1 f2 : List Addr} {n1 n2 i : Nat} {P1 P2 : Nat → Value → Prop} {S1 S2 : Nat → Heap → Prop} {a1 a2 out : Value} {b : Bool}
theorem alive_any {T : Addr} {Q : Option Obj → Shared → Prop} (h : Q (s.heap.get? T) s) : wpAny (model prog w) A (loadIfAlive T) Q E s := fun _ _ _ => h
/-- is the pair that was handed out back? -/
theorem zg_free {Q : Bool → Shared → Prop} (hz : Zg s.heap z I O out b) (ho : Zo out) (h1 : Q true s) (h2 : ∀ g, Zg g z I O out true → Heap.SameBut z s.heap g → Q false { s with heap := g }) :
    wpAny (model prog w) A (Builtin.SmallTypes.ownedTupleIsFree (.ref z)) Q E s := by
  unfold Builtin.SmallTypes.ownedTupleIsFree
  rcases ho with rfl | ⟨T, rfl⟩
  · exact wpAny_bind (wpAny_field hz rfl (x := .none) rfl (wpAny_pure h1))
  · refine wpAny_bind (wpAny_field hz rfl (x := rawInt (T : Int)) rfl ?_)
    show wpAny _ _ (loadIfAlive ((T : Int).toNat) >>= fun o => _) _ _ _
    rw [Int.toNat_natCast]
    refine wpAny_bind (alive_any ?_)
    cases e : s.heap.get? T with
    | none => exact wpAny_pure h1
    | some o =>
      simp only [Option.isNone_some, Bool.false_eq_true, if_false]
      refine wpAny_bind (wpAny_field hz rfl (x := .bool b) rfl ?_)
      cases b with
      | true => exact wpAny_pure (h2 s.heap hz (Heap.SameBut.refl _ _))
      | false => exact wpAny_bind (wpAny_setField_rec hz (by simp) fun g hg sg => wpAny_pure (h2 g hg sg))
/-- what stands behind a drawn pair -/
structure After (s : Shared) (z I O i1 i2 : Addr) (S1 S2 : Nat → Heap → Prop) (i : Nat) (x y : Value) (g : Heap) : Prop where
  zg : ∃ out b, Zo out ∧ Zg g z I O out b
  inn : Pr2 g I (.ref i1) (.ref i2)
  outp : ∃ u v, Pr2 g O u v
  s1 : S1 (i + 1) g
  s2 : S2 (i + 1) g
  new : Pr2 g s.heap.objs.size x y
  size : g.objs.size = s.heap.objs.size + 1
  keep : ∀ c o, c ≠ z → c ≠ O → c ≠ i1 → c ≠ i2 → s.heap.get? c = some o → g.get? c = some o
theorem zg_next {Q : Value → Shared → Prop} (D : ZipSep2 z I O i1 i2 f1 f2) (D1 : Draws prog w A i1 f1 n1 P1 S1) (D2 : Draws prog w A i2 f2 n2 P2 S2)
    (hz : Zg s.heap z I O out b) (ho : Zo out) (hI : Pr2 s.heap I (.ref i1) (.ref i2)) (hO : Pr2 s.heap O a1 a2) (st1 : S1 i s.heap) (st2 : S2 i s.heap) (h1 : i < n1) (h2 : i < n2)
    (k : ∀ x y g tk, P1 i x → P2 i y → After s z I O i1 i2 S1 S2 i x y g → Q (.ref s.heap.objs.size) { s with heap := g, toks := tk }) :
    wpAny (model prog w) A (Builtin.«zip.__next__» ⟨[.ref z], []⟩) (fun fin s' => ∃ v, fin = .done (.ret v) ∧ Q v s') E s := by
  obtain ⟨hp, gs, dr, t0, os⟩ := s
  show wpAny _ _ (field (.ref z) 2 >>= fun v => _) _ _ _
  refine wpAny_bind (wpAny_field hz rfl (x := .bool false) rfl ?_)
  show wpAny _ _ (field (.ref z) 3 >>= fun v => _) _ _ _
  refine wpAny_bind (wpAny_field hz rfl (x := .ref I) rfl ?_)
  refine wpAny_bind (wpAny_seqItems hI rfl ?_)
  show wpAny _ _ (Builtin.SmallTypes.ownedTupleIsFree (.ref z) >>= fun v => _) _ _ _
  refine wpAny_bind (zg_free hz ho ?_ fun g0 z0 e0 => ?_)
  · simp only [if_true]
    refine wpAny_bind (wpAny_rule ?_)
    refine wpAny_bind (wpAny_field hz rfl (x := .ref O) rfl ?_)
    refine wpAny_bind (wpAny_setField_rec hz (by simp) fun g0 z0 e0 => ?_)
    replace z0 : Zg g0 z I O .ellipsis b := z0
    replace e0 : Heap.SameBut z hp g0 := e0
    refine wpAny_bind ?_
    simp only [List.zipIdx_cons, List.zipIdx_nil, List.forIn_cons, List.forIn_nil]
    refine wpAny_bind (wpAny_bind (wpAny_onRaise ?_))
    show wpAny _ _ (Builtin.SmallTypes.nextOf (.ref i1) >>= fun v => _) _ _ ⟨g0, gs, dr, t0, os⟩
    refine wpAny_bind (D1.item i _ _ _ h1 (D1.over st1 e0 D.zf1) fun x p1 t1 hx sn1 e1 => wpAny_pure ?_)
    replace e1 : Heap.SameBut i1 g0 p1 := e1
    have u1 : Pr2 p1 O a1 a2 := e1.extBut _ _ D.Ti1 (e0.extBut _ _ D.TOz hO)
    refine wpAny_bind (wpAny_seqItems (s := ⟨p1, gs, dr, t1, os⟩) u1 rfl ?_)
    refine wpAny_bind (updateSeq_IsTupOf2 (s := ⟨p1, gs, dr, t1, os⟩) u1 fun g1 v1 e2 => ?_)
    replace v1 : Pr2 g1 O x a2 := v1
    replace e2 : Heap.SameBut O p1 g1 := e2
    refine wpAny_bind (wpAny_letGo (wpAny_pure ?_))
    refine wpAny_bind (wpAny_bind (wpAny_onRaise ?_))
    show wpAny _ _ (Builtin.SmallTypes.nextOf (.ref i2) >>= fun v => _) _ _ ⟨g1, gs, dr, t1, os⟩
    refine wpAny_bind (D2.item i _ _ _ h2 (D2.over (D2.over (D2.over st2 e0 D.zf2) e1 D.sep1_2) e2 D.Tf2) fun y p2 t2 hy sn2 e3 => wpAny_pure ?_)
    replace e3 : Heap.SameBut i2 g1 p2 := e3
    have u2 : Pr2 p2 O x a2 := e3.extBut _ _ D.Ti2 v1
    refine wpAny_bind (wpAny_seqItems (s := ⟨p2, gs, dr, t2, os⟩) u2 rfl ?_)
    refine wpAny_bind (updateSeq_IsTupOf2 (s := ⟨p2, gs, dr, t2, os⟩) u2 fun g2 v2 e4 => ?_)
    replace v2 : Pr2 g2 O x y := v2
    replace e4 : Heap.SameBut O p2 g2 := e4
    refine wpAny_bind (wpAny_letGo (wpAny_pure (wpAny_pure ?_)))
    refine wpAny_bind (wpAny_seqItems (s := ⟨g2, gs, dr, t2, os⟩) v2 rfl ?_)
    refine wpAny_bind (wpAny_newTuple ?_)
    have hn : g2.objs.size = hp.objs.size := by rw [e4.1, e3.1, e2.1, e1.1, e0.1]
    have z2 : Zg g2 z I O .ellipsis b := e4.extBut _ _ D.TOz.symm (e3.extBut _ _ D.zi2 (e2.extBut _ _ D.TOz.symm (e1.extBut _ _ D.zi1 z0)))
    have hk : ∀ c o, c ≠ z → c ≠ O → c ≠ i1 → c ≠ i2 → hp.get? c = some o → g2.get? c = some o := fun c o q1 q2 q3 q4 e => e4.extBut _ _ q2 (e3.extBut _ _ q4 (e2.extBut _ _ q2 (e1.extBut _ _ q3 (e0.extBut _ _ q1 e))))
    have j1 : S1 (i + 1) g2 := D1.over (D1.over (D1.over sn1 e2 D.Tf1) e3 D.sep2_1) e4 D.Tf1
    have j2 : S2 (i + 1) g2 := D2.over sn2 e4 D.Tf2
    have zl : z < g2.objs.size := Heap.lt_size z2
    show wpAny _ _ (Builtin.SmallTypes.ownedTupleHandOut (.ref z) (.ref g2.objs.size) >>= fun v => _) _ _ ⟨g2.push { cls := .type "tuple", data := .seq #[x, y] }, gs, dr, t2, os⟩
    refine wpAny_bind ?_
    unfold Builtin.SmallTypes.ownedTupleHandOut
    have z3 : Zg (g2.push { cls := .type "tuple", data := .seq #[x, y] }) z I O .ellipsis b := Heap.get?_push_of_some _ z2
    refine wpAny_bind (wpAny_setField_rec z3 (by simp) fun g4 z4 e5 => ?_)
    replace z4 : Zg g4 z I O (rawInt g2.objs.size) b := z4
    refine wpAny_setField_rec z4 (by simp) fun g5 z5 e6 => ?_
    replace z5 : Zg g5 z I O (rawInt g2.objs.size) false := z5
    replace e5 : Heap.SameBut z (g2.push { cls := .type "tuple", data := .seq #[x, y] }) g4 := e5
    replace e6 : Heap.SameBut z g4 g5 := e6
    have up : ∀ c o, c ≠ z → g2.get? c = some o → g5.get? c = some o := fun c o q e => e6.extBut _ _ q (e5.extBut _ _ q (Heap.get?_push_of_some _ e))
    have nw : Pr2 g5 g2.objs.size x y := e6.extBut _ _ (Nat.ne_of_gt zl) (e5.extBut _ _ (Nat.ne_of_gt zl) (Heap.get?_push_size _ rfl))
    have sz : g5.objs.size = g2.objs.size + 1 := by rw [e6.1, e5.1, Heap.size_push]
    rw [hn] at z5 nw sz
    refine wpAny_pure ⟨_, rfl, ?_⟩
    show Q (.ref g2.objs.size) ⟨g5, gs, dr, t2, os⟩
    rw [hn]
    exact k x y g5 t2 hx hy ⟨⟨_, _, .inr ⟨_, rfl⟩, z5⟩, up _ _ D.TIz (hk _ _ D.TIz D.TITO D.TIi1 D.TIi2 hI), ⟨_, _, up _ _ D.TOz v2⟩, D1.frame _ _ _ j1 fun c hc o e => up c o (fun q => D.zf1 (q ▸ hc)) e, D2.frame _ _ _ j2 fun c hc o e => up c o (fun q => D.zf2 (q ▸ hc)) e, nw, sz, fun c o q1 q2 q3 q4 e => up c o q1 (hk c o q1 q2 q3 q4 e)⟩
  · replace e0 : Heap.SameBut z hp g0 := e0
    simp only [Bool.false_eq_true, if_false]
    refine wpAny_bind ?_
    rw [← Array.forIn_toList]
    simp only [List.forIn_cons, List.forIn_nil]
    refine wpAny_bind (wpAny_bind (wpAny_holding ?_))
    show wpAny _ _ (Builtin.SmallTypes.nextOf (.ref i1) >>= fun v => _) _ _ ⟨g0, gs, dr, t0, os⟩
    refine wpAny_bind (D1.item i _ _ _ h1 (D1.over st1 e0 D.zf1) fun x p1 t1 hx sn1 e1 => wpAny_pure ?_)
    replace e1 : Heap.SameBut i1 g0 p1 := e1
    refine wpAny_pure ?_
    refine wpAny_bind (wpAny_bind (wpAny_holding ?_))
    show wpAny _ _ (Builtin.SmallTypes.nextOf (.ref i2) >>= fun v => _) _ _ ⟨p1, gs, dr, t1, os⟩
    refine wpAny_bind (D2.item i _ _ _ h2 (D2.over (D2.over st2 e0 D.zf2) e1 D.sep1_2) fun y p2 t2 hy sn2 e3 => wpAny_pure ?_)
    replace e3 : Heap.SameBut i2 p1 p2 := e3
    refine wpAny_pure (wpAny_pure ?_)
    show wpAny _ _ (newTuple [x, y] >>= fun v => _) _ _ ⟨p2, gs, dr, t2, os⟩
    refine wpAny_bind (wpAny_newTuple ?_)
    have hn : p2.objs.size = hp.objs.size := by rw [e3.1, e1.1, e0.1]
    have z2 : Zg p2 z I O out true := e3.extBut _ _ D.zi2 (e1.extBut _ _ D.zi1 z0)
    have hk : ∀ c o, c ≠ z → c ≠ i1 → c ≠ i2 → hp.get? c = some o → p2.get? c = some o := fun c o q1 q3 q4 e => e3.extBut _ _ q4 (e1.extBut _ _ q3 (e0.extBut _ _ q1 e))
    have j1 : S1 (i + 1) p2 := D1.over sn1 e3 D.sep2_1
    refine wpAny_pure ⟨_, rfl, ?_⟩
    show Q (.ref p2.objs.size) ⟨p2.push { cls := .type "tuple", data := .seq #[x, y] }, gs, dr, t2, os⟩
    have nw : Pr2 (p2.push { cls := .type "tuple", data := .seq #[x, y] }) p2.objs.size x y := Heap.get?_push_size _ rfl
    have sz : (p2.push { cls := .type "tuple", data := .seq #[x, y] }).objs.size = p2.objs.size + 1 := Heap.size_push ..
    rw [hn] at nw sz ⊢
    have up : ∀ c o, p2.get? c = some o → (p2.push { cls := .type "tuple", data := .seq #[x, y] }).get? c = some o := fun c o e => Heap.get?_push_of_some _ e
    exact k x y _ t2 hx hy ⟨⟨_, _, ho, up _ _ z2⟩, up _ _ (hk _ _ D.TIz D.TIi1 D.TIi2 hI), ⟨_, _, up _ _ (hk _ _ D.TOz D.Ti1 D.Ti2 hO)⟩, D1.frame _ _ _ j1 fun c hc o e => up c o e, D2.frame _ _ _ sn2 fun c hc o e => up c o e, nw, sz, fun c o q1 q2 q3 q4 e => up c o (hk c o q1 q3 q4 e)⟩
theorem zg_end {Q : Fin → Shared → Prop} (D : ZipSep2 z I O i1 i2 f1 f2) (D1 : Draws prog w A i1 f1 n1 P1 S1) (D2 : Draws prog w A i2 f2 n2 P2 S2)
    (hz : Zg s.heap z I O out b) (ho : Zo out) (hI : Pr2 s.heap I (.ref i1) (.ref i2)) (hO : Pr2 s.heap O a1 a2) (st1 : S1 i s.heap) (st2 : S2 i s.heap) (h1 : i ≤ n1) (h2 : i ≤ n2) (he : i = n1 ∨ i = n2)
    (k : ∀ g tk e, (∀ c o, c ≠ z → c ≠ O → c ≠ i1 → c ≠ i2 → s.heap.get? c = some o → g.get? c = some o) → (∃ o, g.get? e = some o ∧ o.cls = .type "StopIteration") → E (.ref e) { s with heap := g, toks := tk }) :
    wpAny (model prog w) A (Builtin.«zip.__next__» ⟨[.ref z], []⟩) Q E s := by
  obtain ⟨hp, gs, dr, t0, os⟩ := s
  show wpAny _ _ (field (.ref z) 2 >>= fun v => _) _ _ _
  refine wpAny_bind (wpAny_field hz rfl (x := .bool false) rfl ?_)
  show wpAny _ _ (field (.ref z) 3 >>= fun v => _) _ _ _
  refine wpAny_bind (wpAny_field hz rfl (x := .ref I) rfl ?_)
  refine wpAny_bind (wpAny_seqItems hI rfl ?_)
  show wpAny _ _ (Builtin.SmallTypes.ownedTupleIsFree (.ref z) >>= fun v => _) _ _ _
  refine wpAny_bind (zg_free hz ho ?_ fun g0 z0 e0 => ?_)
  · simp only [if_true]
    refine wpAny_bind (wpAny_rule ?_)
    refine wpAny_bind (wpAny_field hz rfl (x := .ref O) rfl ?_)
    refine wpAny_bind (wpAny_setField_rec hz (by simp) fun g0 z0 e0 => ?_)
    replace z0 : Zg g0 z I O .ellipsis b := z0
    replace e0 : Heap.SameBut z hp g0 := e0
    refine wpAny_bind ?_
    simp only [List.zipIdx_cons, List.zipIdx_nil, List.forIn_cons, List.forIn_nil]
    refine wpAny_bind (wpAny_bind (wpAny_onRaise ?_))
    show wpAny _ _ (Builtin.SmallTypes.nextOf (.ref i1) >>= fun v => _) _ _ ⟨g0, gs, dr, t0, os⟩
    by_cases hlt : i < n1
    · refine wpAny_bind (D1.item i _ _ _ hlt (D1.over st1 e0 D.zf1) fun x p1 t1 hx sn1 e1 => wpAny_pure ?_)
      replace e1 : Heap.SameBut i1 g0 p1 := e1
      have u1 : Pr2 p1 O a1 a2 := e1.extBut _ _ D.Ti1 (e0.extBut _ _ D.TOz hO)
      refine wpAny_bind (wpAny_seqItems (s := ⟨p1, gs, dr, t1, os⟩) u1 rfl ?_)
      refine wpAny_bind (updateSeq_IsTupOf2 (s := ⟨p1, gs, dr, t1, os⟩) u1 fun g1 v1 e2 => ?_)
      replace v1 : Pr2 g1 O x a2 := v1
      replace e2 : Heap.SameBut O p1 g1 := e2
      refine wpAny_bind (wpAny_letGo (wpAny_pure ?_))
      have hi : i = n2 := by omega
      refine wpAny_bind (wpAny_bind (wpAny_onRaise ?_))
      show wpAny _ _ (Builtin.SmallTypes.nextOf (.ref i2) >>= fun v => _) _ _ ⟨g1, gs, dr, t1, os⟩
      refine wpAny_bind (D2.done ⟨g1, gs, dr, t1, os⟩ _ _ (by rw [← hi]; exact (D2.over (D2.over (D2.over st2 e0 D.zf2) e1 D.sep1_2) e2 D.Tf2)) fun q e hq hs => ?_)
      replace hq : Heap.ExtBut i2 g1 q := hq
      obtain ⟨oe, r1, r2⟩ := hs
      replace r1 : q.get? e = some oe := r1
      have zq : Zg q z I O .ellipsis b := hq _ _ D.zi2 (e2.extBut _ _ D.TOz.symm (e1.extBut _ _ D.zi1 z0))
      have ez : e ≠ z := fun x => by
        rw [x, zq] at r1
        cases r1
        simp at r2
      refine wpAny_setField_rec (s := ⟨q, gs, dr, t1, os⟩) zq (by simp) fun q2 _ hq2 => ?_
      replace hq2 : Heap.SameBut z q q2 := hq2
      exact k q2 t1 e (fun c o c1 c2 c3 c4 x => hq2.extBut _ _ c1 (hq _ _ c4 (e2.extBut _ _ c2 (e1.extBut _ _ c3 (e0.extBut _ _ c1 x))))) ⟨oe, hq2.extBut _ _ ez r1, r2⟩
    · have hi : i = n1 := by omega
      refine wpAny_bind (D1.done ⟨g0, gs, dr, t0, os⟩ _ _ (by rw [← hi]; exact (D1.over st1 e0 D.zf1)) fun q e hq hs => ?_)
      replace hq : Heap.ExtBut i1 g0 q := hq
      obtain ⟨oe, r1, r2⟩ := hs
      replace r1 : q.get? e = some oe := r1
      have zq : Zg q z I O .ellipsis b := hq _ _ D.zi1 z0
      have ez : e ≠ z := fun x => by
        rw [x, zq] at r1
        cases r1
        simp at r2
      refine wpAny_setField_rec (s := ⟨q, gs, dr, t0, os⟩) zq (by simp) fun q2 _ hq2 => ?_
      replace hq2 : Heap.SameBut z q q2 := hq2
      exact k q2 t0 e (fun c o c1 c2 c3 c4 x => hq2.extBut _ _ c1 (hq _ _ c3 (e0.extBut _ _ c1 x))) ⟨oe, hq2.extBut _ _ ez r1, r2⟩
  · replace e0 : Heap.SameBut z hp g0 := e0
    simp only [Bool.false_eq_true, if_false]
    refine wpAny_bind ?_
    rw [← Array.forIn_toList]
    simp only [List.forIn_cons, List.forIn_nil]
    refine wpAny_bind (wpAny_bind (wpAny_holding ?_))
    show wpAny _ _ (Builtin.SmallTypes.nextOf (.ref i1) >>= fun v => _) _ _ ⟨g0, gs, dr, t0, os⟩
    by_cases hlt : i < n1
    · refine wpAny_bind (D1.item i _ _ _ hlt (D1.over st1 e0 D.zf1) fun x p1 t1 hx sn1 e1 => wpAny_pure ?_)
      replace e1 : Heap.SameBut i1 g0 p1 := e1
      refine wpAny_pure ?_
      have hi : i = n2 := by omega
      refine wpAny_bind (wpAny_bind (wpAny_holding ?_))
      show wpAny _ _ (Builtin.SmallTypes.nextOf (.ref i2) >>= fun v => _) _ _ ⟨p1, gs, dr, t1, os⟩
      refine wpAny_bind (D2.done ⟨p1, gs, dr, t1, os⟩ _ _ (by rw [← hi]; exact (D2.over (D2.over st2 e0 D.zf2) e1 D.sep1_2)) fun q e hq hs => ?_)
      replace hq : Heap.ExtBut i2 p1 q := hq
      exact k q t1 e (fun c o c1 c2 c3 c4 x => hq _ _ c4 (e1.extBut _ _ c3 (e0.extBut _ _ c1 x))) hs
    · have hi : i = n1 := by omega
      refine wpAny_bind (D1.done ⟨g0, gs, dr, t0, os⟩ _ _ (by rw [← hi]; exact (D1.over st1 e0 D.zf1)) fun q e hq hs => ?_)
      replace hq : Heap.ExtBut i1 g0 q := hq
      exact k q t0 e (fun c o c1 c2 c3 c4 x => hq _ _ c3 (e0.extBut _ _ c1 x)) hs
end
end Gz

set_option Elab.async false
set_option linter.all false
set_option maxRecDepth 100000
set_option maxHeartbeats 1000000
/-! walks over zip and enumerate of lists and tuples in any mix -/
namespace Gz
open PySem PySem.Spec PyProof.Rows L2
open Sem (wp)
/-! ### lists and tuples alike -/
inductive Sk where
  | l
  | t
def Sk.Is : Sk → Heap → Addr → Array Value → Prop
  | .l => fun h a its => h.IsList a its
  | .t => fun h a its => h.IsTuple a its
def Sk.At : Sk → Heap → Addr → Addr → Nat → Prop
  | .l => fun h it a i => h.IsListIter it a i
  | .t => fun h it a i => h.IsTupleIter it a i
def Sk.Sq (K : PySem.W.Frag) : Sk → Hp → Addr → List V → Prop
  | .l => fun H a xs => SqL K H a xs
  | .t => fun H a xs => SqT K H a xs
def Sk.obj : Sk → Addr → Obj
  | .l => fun a => { cls := .type "list_iterator", data := .fields #[.ref a, .int 0 0] }
  | .t => fun a => { cls := .type "tuple_iterator", data := .fields #[.ref a, .int 0 0] }
def Sk.lp : Sk → List PyData → PyData
  | .l => fun xs => .list xs
  | .t => fun xs => .tuple xs
theorem sk_draws {prog : Program} {w : World} {A : Around} (hh : A.handled = none) (k : Sk) (it a : Addr) (hne : a ≠ it) (its : Array Value) : Draws prog w A it [it, a] its.size (fun i v => its[i]? = some v) (fun i h => k.At h it a i ∧ k.Is h a its) := by
  cases k with
  | l => exact Draws.list hh it a hne its
  | t => exact Draws.tuple hh it a hne its
theorem sk_begins (k : Sk) (a : Addr) (its : Array Value) : Begins (.ref a) (k.obj a) fun h => k.Is h a its := by
  cases k with
  | l => exact begins_list a its
  | t => exact begins_tuple a its
theorem sk_at0 {h : Heap} {it a : Addr} (k : Sk) (e : h.get? it = some (k.obj a)) : k.At h it a 0 := by
  cases k with
  | l => exact ⟨_, e, rfl, rfl⟩
  | t => exact ⟨_, e, rfl, rfl⟩
theorem sk_keep {h h' : Heap} {it a : Addr} {i : Nat} (k : Sk) (x : k.At h it a i) (e : ∀ o, h.get? it = some o → h'.get? it = some o) : k.At h' it a i := by
  cases k with
  | l => exact Heap.IsListIter.at x e
  | t => exact Heap.IsTupleIter.at x e
theorem sk_keepI {h h' : Heap} {a : Addr} {its : Array Value} (k : Sk) (x : k.Is h a its) (e : ∀ o, h.get? a = some o → h'.get? a = some o) : k.Is h' a its := by
  cases k with
  | l => exact Heap.IsList.at x e
  | t => exact Heap.IsTuple.at x e
theorem sk_live {h : Heap} {it a : Addr} {i : Nat} (k : Sk) (x : k.At h it a i) : ∃ o, h.get? it = some o ∧ ∀ v, o.data ≠ .cell v := by
  cases k with
  | l =>
    obtain ⟨o, e, _, d⟩ := x
    exact ⟨o, e, fun v q => by rw [d] at q; cases q⟩
  | t =>
    obtain ⟨o, e, _, d⟩ := x
    exact ⟨o, e, fun v q => by rw [d] at q; cases q⟩
theorem sk_lt {h : Heap} {a : Addr} {its : Array Value} (k : Sk) (x : k.Is h a its) : a < h.objs.size := by
  cases k with
  | l =>
    obtain ⟨o, e, _⟩ := id x
    exact Heap.lt_size e
  | t =>
    obtain ⟨o, e, _⟩ := id x
    exact Heap.lt_size e
section
variable {X : Cx} {pins : List (Addr × Obj)} {σ : L2.St} {H : Hp} {s : Shared} {a b : Addr} {us ws : List V}
theorem sk_size (k : Sk) (I : Inv X pins σ H s) (q : k.Sq X.K H a us) : us.length ≤ sizeLine := by
  cases k with
  | l =>
    obtain ⟨its, rv, p, hz⟩ := I.list q
    exact hz
  | t =>
    obtain ⟨its, rv, p, hz⟩ := I.tuple q
    exact hz
theorem sk_inv (k : Sk) (I : Inv X pins σ H s) (q : k.Sq X.K H a us) : ∃ its : List Value, Vals us its ∧ k.Is s.heap a its.toArray := by
  cases k with
  | l =>
    obtain ⟨its, rv, p, _⟩ := I.list q
    exact ⟨its, rv, p.isList⟩
  | t =>
    obtain ⟨its, rv, p, _⟩ := I.tuple q
    exact ⟨its, rv, p⟩
theorem vals_at {its : List Value} {i : Nat} {v : Value} (rv : Vals us its) (h : its.toArray[i]? = some v) : ∃ u, us[i]? = some u ∧ RelV u v := by
  have h' : its[i]? = some v := by simpa using h
  have hl := rv.length
  have hi : i < us.length := by
    have := (List.getElem?_eq_some_iff.mp h').1
    omega
  obtain ⟨v', h1, h2⟩ := rv.get (List.getElem?_eq_getElem hi)
  rw [h'] at h1
  cases h1
  exact ⟨_, List.getElem?_eq_getElem hi, h2⟩
end
/-! ### zip -/
def Jz (K : PySem.W.Frag) (k1 k2 : Sk) (a b : Addr) (us ws : List V) : It :=
  ⟨fun i H => i < min us.length ws.length ∧ k1.Sq K H a us ∧ k2.Sq K H b ws, fun i H v H' => ∃ T x y, v = .ref T ∧ H T = none ∧ H' = upd H T (.tup [x, y]) ∧ us[i]? = some x ∧ ws[i]? = some y,
    fun i H => i = min us.length ws.length ∧ k1.Sq K H a us ∧ k2.Sq K H b ws⟩
theorem turn_z {P : Program} {w : World} {K : PySem.W.Frag} {elts : List Expr} {kk : Nat} {tpos : Pos} {k1 k2 : Sk} {a b z I O i1 i2 : Addr} {us ws : List V} (D : ZipSep2 z I O i1 i2 [i1, a] [i2, b]) (ha : a ≠ i1) (hb : b ≠ i2) :
    Turn P w K (.Tuple elts kk tpos) (Jz K k1 k2 a b us ws) [z, I, O, i1, i2] z (fun i h => IsZip h z I O .none ∧ Pr2 h I (.ref i1) (.ref i2) ∧ (∃ x y, Pr2 h O x y) ∧ k1.At h i1 a i ∧ k2.At h i2 b i) where
  mem := by simp
  obj := fun i h st c hc => by
    obtain ⟨hz, hI, ⟨x, y, hO⟩, h1, h2⟩ := st
    have e' : c = z ∨ c = I ∨ c = O ∨ c = i1 ∨ c = i2 := by simpa using hc
    rcases e' with rfl | rfl | rfl | rfl | rfl
    · exact ⟨_, hz, fun v q => nomatch q⟩
    · exact ⟨_, hI, fun v q => nomatch q⟩
    · exact ⟨_, hO, fun v q => nomatch q⟩
    · exact sk_live k1 h1
    · exact sk_live k2 h2
  keep := fun i h h' st k => by
    obtain ⟨hz, hI, ⟨x, y, hO⟩, h1, h2⟩ := st
    exact ⟨k z (by simp) _ hz, k I (by simp) _ hI, ⟨x, y, k O (by simp) _ hO⟩, sk_keep k1 h1 fun o q => k i1 (by simp) o q, sk_keep k2 h2 fun o q => k i2 (by simp) o q⟩
  item := by
    intro X hP hw hK hc i pins s σ H E Iv hf st hg
    subst hP hw hK
    obtain ⟨hz, hI, ⟨x0, y0, hO⟩, h1, h2⟩ := st
    obtain ⟨hi, q1, q2⟩ := hg
    obtain ⟨it1, rv1, p1⟩ := sk_inv k1 Iv q1
    obtain ⟨it2, rv2, p2⟩ := sk_inv k2 Iv q2
    have hzl : z < s.heap.objs.size := Heap.lt_size hz
    have l1 := rv1.length
    have l2 := rv2.length
    have hd : X.A.in1.handled = none := Iv.ok.hd hc
    refine wpAny_pyNext_zipD2_item D (sk_draws hd k1 i1 a ha it1.toArray) (sk_draws hd k2 i2 b hb it2.toArray) hz hI hO ⟨h1, p1⟩ ⟨h2, p2⟩ (by simp; omega) (by simp; omega) fun u v h' tk hu hv z' O' s1' s2' hT hsz hk => ?_
    obtain ⟨x, hx, rx⟩ := vals_at rv1 hu
    obtain ⟨y, hy, ry⟩ := vals_at rv2 hv
    refine ⟨_, rfl, wpAny_letOwnedTupleGo_zip (s := { s with heap := h', toks := tk }) z' fun h'' z'' sb => ?_⟩
    have hT2 : h''.get? s.heap.objs.size = some { cls := .type "tuple", data := .seq #[u, v] } := (sb.2 _ (Nat.ne_of_gt hzl)).trans hT
    have new : ObjOk X.prog X.w (upd H s.heap.objs.size (.tup [x, y])) h'' s.heap.objs.size (.tup [x, y]) := ⟨by show 2 ≤ sizeLine; decide, [u, v], .cons rx (.cons ry .nil), ⟨_, hT2, rfl, _, rfl⟩⟩
    have kk' : ∀ c o, c ∉ [z, I, O, i1, i2] → s.heap.get? c = some o → h''.get? c = some o := fun c o hb q => (sb.2 c (fun q' => hb (by simp [q']))).trans (hk c o (fun q' => hb (by simp [q'])) (fun q' => hb (by simp [q'])) (fun q' => hb (by simp [q'])) (fun q' => hb (by simp [q'])) q)
    refine ⟨.ref s.heap.objs.size, _, Iv.turnedNew (t' := tk) (ch := [z, I, O, i1, i2]) kk' hf (Nat.le_refl _) new, rfl, ⟨_, x, y, rfl, Iv.hok.fresh (Nat.le_refl _), rfl, hx, hy⟩, ⟨z'', ?_, ⟨u, v, ?_⟩, ?_, ?_⟩, fun c hcm => ?_⟩
    · exact (sb.2 _ D.TIz).trans (hk _ _ D.TIz D.TITO D.TIi1 D.TIi2 hI)
    · exact (sb.2 _ D.TOz).trans O'
    · exact sk_keep k1 s1'.1 fun o q => (sb.2 _ D.zi1.symm).trans q
    · exact sk_keep k2 s2'.1 fun o q => (sb.2 _ D.zi2.symm).trans q
    · have hlt : c < s.heap.objs.size := by
        have e' : c = z ∨ c = I ∨ c = O ∨ c = i1 ∨ c = i2 := by simpa using hcm
        obtain ⟨o1, e1, _⟩ := sk_live k1 h1
        obtain ⟨o2, e2, _⟩ := sk_live k2 h2
        rcases e' with rfl | rfl | rfl | rfl | rfl
        · exact hzl
        · exact Heap.lt_size hI
        · exact Heap.lt_size hO
        · exact Heap.lt_size e1
        · exact Heap.lt_size e2
      rw [upd_ne (Nat.ne_of_lt hlt)]
      exact (hf c hcm).1
  done := by
    intro X hP hw hK hc i pins s σ H E Iv hf st hg
    subst hP hw hK
    obtain ⟨hz, hI, ⟨x0, y0, hO⟩, h1, h2⟩ := st
    obtain ⟨hi, q1, q2⟩ := hg
    obtain ⟨it1, rv1, p1⟩ := sk_inv k1 Iv q1
    obtain ⟨it2, rv2, p2⟩ := sk_inv k2 Iv q2
    have l1 := rv1.length
    have l2 := rv2.length
    have hd : X.A.in1.handled = none := Iv.ok.hd hc
    refine wpAny_pyNext_zipD2_end D (sk_draws hd k1 i1 a ha it1.toArray) (sk_draws hd k2 i2 b hb it2.toArray) hz hI hO ⟨h1, p1⟩ ⟨h2, p2⟩ (by simp; omega) (by simp; omega) (by simp; omega) fun h' tk hk => ⟨rfl, ?_⟩
    exact Iv.turnedL (t' := tk) (ch := [z, I, O, i1, i2]) (fun c o hb q => hk c o (fun q' => hb (by simp [q'])) (fun q' => hb (by simp [q'])) (fun q' => hb (by simp [q'])) (fun q' => hb (by simp [q'])) q) hf
  self := fun A i s Q E st h => wpAny_pyIter_zip st.1 h
def iZ (K : PySem.W.Frag) (ta : TA) : TI := fun σ H R => ta σ H fun vs H1 => ∃ (k1 k2 : Sk) (a b : Addr) (us ws : List V), vs = [.ref a, .ref b] ∧ k1.Sq K H1 a us ∧ k2.Sq K H1 b ws ∧ R (Jz K k1 k2 a b us ws) H1
theorem five {c n : Nat} (h : c ∈ [n + 4, n + 2, n + 3, n, n + 1]) : n ≤ c := by
  simp only [List.mem_cons, List.not_mem_nil, or_false] at h
  omega
theorem pi_z {X : Cx} {e e2 : Expr} {ta : TA} {p pos tpos : Pos} {elts : List Expr} {kk : Nat} (hg : Gl X "zip") (hm : X.mg "zip" = none) (ha : PA X [e, e2] ta)
    (hs : starEach [e, e2] X.env = (false, eval e X.env) :: starEach [e2] X.env := by rfl) (hpl : (backTo pos (starEach [e2] X.env)).any (·.1) = false := by rfl) : PI X (.Tuple elts kk tpos) (.Call (.Name "zip" p) [e, e2] [] pos) (iZ X.K ta) := by
  refine ⟨fun pins s σ H R I h => ?_⟩
  refine Call_ (ld_blt I hg hm PyProof.Rows.boot_zip (PyProof.Rows.callWith_type1 (thn (ha.run pos pins s σ H _ I h) fun us s1 ⟨vs, H1, I1, r1, q1⟩ => ?_) hs hpl))
  obtain ⟨k1, k2, a, b, us, ws, ex, g1, g2, q⟩ := q1
  subst ex
  cases r1 with
  | cons r rr =>
    cases rr with
    | cons r' rr =>
      cases rr
      cases r
      cases r'
      obtain ⟨it1, rv1, p1⟩ := sk_inv k1 I1 g1
      obtain ⟨it2, rv2, p2⟩ := sk_inv k2 I1 g2
      have la := sk_lt k1 p1
      have lb := sk_lt k2 p2
      refine zip_begins2 (sk_begins k1 a it1.toArray) (sk_begins k2 b it2.toArray) p1 p2 fun h' hz hI hO h1 h2 hsz hk => wpAny_pyIter_zip hz ?_
      exact ⟨s1.heap.objs.size + 4, [s1.heap.objs.size + 4, s1.heap.objs.size + 2, s1.heap.objs.size + 3, s1.heap.objs.size, s1.heap.objs.size + 1], _, _, H1, rfl, I1.kept (t' := s1.toks) hk,
        turn_z (zip_sep2 (fun c hc => by rw [List.mem_singleton.mp hc]; exact la) (fun c hc => by rw [List.mem_singleton.mp hc]; exact lb)) (Nat.ne_of_lt la) (Nat.ne_of_lt (Nat.lt_succ_of_lt lb)), ⟨hz, hI, ⟨_, _, hO⟩, sk_at0 k1 h1, sk_at0 k2 h2⟩, fun c hc => I1.fpOk (five hc) (I1.hok.fresh (five hc)), q⟩
/-! ### enumerate -/
def Je (K : PySem.W.Frag) (k : Sk) (a : Addr) (us : List V) : It :=
  ⟨fun i H => i < us.length ∧ k.Sq K H a us, fun i H v H' => ∃ T x, v = .ref T ∧ H T = none ∧ H' = upd H T (.tup [.int (i : Nat), x]) ∧ us[i]? = some x, fun i H => i = us.length ∧ k.Sq K H a us⟩
theorem turn_e {P : Program} {w : World} {K : PySem.W.Frag} {elts : List Expr} {kk : Nat} {tpos : Pos} {k : Sk} {a e it : Addr} {us : List V} (hei : e ≠ it) (hea : e ≠ a) (hai : a ≠ it) :
    Turn P w K (.Tuple elts kk tpos) (Je K k a us) [e, it] e (fun i h => (∃ old, IsEnum h e it ((i : Nat) : Int) old) ∧ k.At h it a i) where
  mem := by simp
  obj := fun i h st b hb => by
    obtain ⟨⟨old, he⟩, hi⟩ := st
    have e' : b = e ∨ b = it := by simpa using hb
    rcases e' with rfl | rfl
    · exact ⟨_, he, fun v q => nomatch q⟩
    · exact sk_live k hi
  keep := fun i h h' st kp => let ⟨⟨old, he⟩, hi⟩ := st; ⟨⟨old, kp e (by simp) _ he⟩, sk_keep k hi fun o q => kp it (by simp) o q⟩
  item := by
    intro X hP hw hK hc i pins s σ H E Iv hf st hg
    subst hP hw hK
    obtain ⟨⟨old, he⟩, hi⟩ := st
    obtain ⟨hlt, q1⟩ := hg
    obtain ⟨its, rv, p1⟩ := sk_inv k Iv q1
    have l1 := rv.length
    have hel : e < s.heap.objs.size := Heap.lt_size he
    have hd : X.A.in1.handled = none := Iv.ok.hd hc
    refine wpAny_pyNext_enum_itemC (sk_draws hd k it a hai its.toArray) he ⟨hi, p1⟩ (by simp; omega) hei (by simp [hei, hea]) fun v h' tk hv ho st' hT hsz hk => ?_
    obtain ⟨x, hx, rx⟩ := vals_at rv hv
    refine ⟨_, rfl, wpAny_letOwnedTupleGo_enum (s := { s with heap := h', toks := tk + 1 }) ho fun h'' he' sb => ?_⟩
    have hT2 : h''.get? s.heap.objs.size = some { cls := .type "tuple", data := .seq #[.int (i : Nat) tk, v] } := (sb.2 _ (Nat.ne_of_gt hel)).trans hT
    have new : ObjOk X.prog X.w (upd H s.heap.objs.size (.tup [.int (i : Nat), x])) h'' s.heap.objs.size (.tup [.int (i : Nat), x]) := ⟨by show 2 ≤ sizeLine; decide, [.int (i : Nat) tk, v], .cons ⟨_, rfl⟩ (.cons rx .nil), ⟨_, hT2, rfl, _, rfl⟩⟩
    refine ⟨.ref s.heap.objs.size, _, Iv.turnedNew (t' := tk + 1) (ch := [e, it]) (fun b ob hb q => (sb.2 b (fun z => hb (by simp [z]))).trans (hk b ob (fun z => hb (by simp [z])) (fun z => hb (by simp [z])) q)) hf (Nat.le_refl _) new, rfl, ⟨_, x, rfl, Iv.hok.fresh (Nat.le_refl _), rfl, hx⟩, ⟨⟨v, ?_⟩, ?_⟩, fun b hb => ?_⟩
    · have e1 : ((i + 1 : Nat) : Int) = (i : Int) + 1 := by omega
      rw [e1]
      exact he'
    · exact sk_keep k st'.1 fun o q => (sb.2 it hei.symm).trans q
    · have hb' : b < s.heap.objs.size := by
        have e' : b = e ∨ b = it := by simpa using hb
        obtain ⟨o1, e1, _⟩ := sk_live k hi
        rcases e' with rfl | rfl
        · exact hel
        · exact Heap.lt_size e1
      rw [upd_ne (Nat.ne_of_lt hb')]
      exact (hf b hb).1
  done := by
    intro X hP hw hK hc i pins s σ H E Iv hf st hg
    subst hP hw hK
    obtain ⟨⟨old, he⟩, hi⟩ := st
    obtain ⟨hlt, q1⟩ := hg
    obtain ⟨its, rv, p1⟩ := sk_inv k Iv q1
    have l1 := rv.length
    have hd : X.A.in1.handled = none := Iv.ok.hd hc
    refine wpAny_pyNext_enum_endD (sk_draws hd k it a hai its.toArray) he (by rw [show its.toArray.size = i by simp; omega]; exact ⟨hi, p1⟩) fun h' eb => ⟨rfl, ?_⟩
    exact Iv.turnedL (t' := s.toks) (ch := [e, it]) (fun b o hb q => eb b o (fun z => hb (by simp [z])) q) hf
  self := fun A i s Q E st h => let ⟨⟨_, he⟩, _⟩ := st; wpAny_pyIter_enum he h
/-- iter(x) gives itv, the heap then h1 -/
def PyIt (x : Value) (s : Shared) (itv : Value) (h1 : Heap) : Prop := ∀ (prog : Program) (w : World) (A : Around) (E : Value → Shared → Prop) (Q : Value → Shared → Prop), Q itv { s with heap := h1 } → wpAny (model prog w) A (pyIter x) Q E s
abbrev EnO (itv : Value) : Obj := { cls := .type "enumerate", data := .fields #[.none, .bool false, itv, rawInt 0, .none, .none] }
set_option maxHeartbeats 4000000 in
theorem meets_en1 (x itv : Value) (h1 : Shared → Heap) : Meets (Builtin.«enumerate.__new__» ⟨[.type "enumerate", x], []⟩) (fun _ R s => PyIt x s itv (h1 s) ∧ R (.ok (.ret (.ref (h1 s).objs.size))) { s with heap := (h1 s).push (EnO itv) }) :=
  .of_wp fun prog w A R s h => by
    obtain ⟨hI, h⟩ := h
    generalize hg : h1 s = g1 at hI h
    obtain ⟨hp, g, d, tk, os⟩ := s
    have hsub := sub_enumerate
    have q1 : ∀ {A' : Around} {E : Value → Shared → Prop} {Q : Value → Shared → Prop}, Q itv ⟨g1, g, d, tk, os⟩ → wpAny (model prog w) A' (pyIter x) Q E ⟨hp, g, d, tk, os⟩ := fun q => hI prog w _ _ _ q
    wp_walk using q1
    refine wpAny_stack_any fun st => wpAny_pure ?_
    split
    · rename_i c _ _ _ _ _
      cases (c == Value.type "enumerate")
      · wp_walk using q1
        exact ⟨_, rfl, h⟩
      · wp_walk using q1
        exact ⟨_, rfl, h⟩
    · wp_walk using q1
      exact ⟨_, rfl, h⟩
section
variable {prog : Program} {w : World} {A : Around} {E : Value → Shared → Prop} {s : Shared}
theorem call_en1 {x itv : Value} {h1 : Heap} {Q : Value → Shared → Prop} (hI : PyIt x s itv h1) (k : Q (.ref h1.objs.size) { s with heap := h1.push (EnO itv) }) : wpAny (model prog w) A (call (.type "enumerate") [x]) Q E s := by
  refine callType_new F.called_enumerate (by decide) (F.typeCall_enumerate_1 _) (F.newCall_enumerate_1 _) (fun obj => F.args_object_init_2 obj _) F.entry_enumerate_new (meets_en1 x itv fun _ => h1) ⟨hI, ?_⟩
  exact ⟨⟨_, Heap.get?_push_size _ rfl, rfl⟩, k⟩
end
def iE (K : PySem.W.Frag) (ta : TA) : TI := fun σ H R => ta σ H fun vs H1 => ∃ (k : Sk) (a : Addr) (us : List V), vs = [.ref a] ∧ k.Sq K H1 a us ∧ R (Je K k a us) H1
theorem pi_e {X : Cx} {e : Expr} {ta : TA} {p pos tpos : Pos} {elts : List Expr} {kk : Nat} (hg : Gl X "enumerate") (hm : X.mg "enumerate" = none) (ha : PA X [e] ta) (hs : starEach [e] X.env = [(false, eval e X.env)] := by rfl) :
    PI X (.Tuple elts kk tpos) (.Call (.Name "enumerate" p) [e] [] pos) (iE X.K ta) := by
  refine ⟨fun pins s σ H R I h => ?_⟩
  refine Call_ (ld_blt I hg hm boot_enumerate (PyProof.Rows.callWith_type1 (thn (ha.run pos pins s σ H _ I h) fun us s1 ⟨vs, H1, I1, r1, q1⟩ => ?_) hs rfl))
  obtain ⟨k, a, us, ex, g1, q⟩ := q1
  subst ex
  cases r1 with
  | cons r rr =>
    cases rr
    cases r
    obtain ⟨its, rv, p1⟩ := sk_inv k I1 g1
    have la := sk_lt k p1
    have B := sk_begins k a its.toArray
    refine call_en1 (itv := .ref s1.heap.objs.size) (h1 := s1.heap.push (k.obj a)) (fun prog w A E Q hq => B.iter prog w A E s1 Q p1 hq) ?_
    have hz : (s1.heap.push (k.obj a)).objs.size = s1.heap.objs.size + 1 := Heap.size_push ..
    have he : IsEnum ((s1.heap.push (k.obj a)).push (EnO (.ref s1.heap.objs.size))) (s1.heap.objs.size + 1) s1.heap.objs.size 0 .none := by
      have z := Heap.get?_push_size (s1.heap.push (k.obj a)) (o := EnO (.ref s1.heap.objs.size)) rfl
      rw [hz] at z
      exact z
    have hi : k.At ((s1.heap.push (k.obj a)).push (EnO (.ref s1.heap.objs.size))) s1.heap.objs.size a 0 := sk_at0 k (Heap.get?_push_of_some _ (Heap.get?_push_size _ B.free))
    rw [hz]
    refine wpAny_pyIter_enum he ?_
    refine ⟨s1.heap.objs.size + 1, [s1.heap.objs.size + 1, s1.heap.objs.size], _, _, H1, rfl, I1.kept (t' := s1.toks) fun b o x => Heap.get?_push_of_some _ (Heap.get?_push_of_some _ x), turn_e (Nat.succ_ne_self _) (Nat.ne_of_gt (Nat.lt_succ_of_lt la)) (Nat.ne_of_lt la), ⟨⟨_, he⟩, hi⟩, fun b hb => ?_, q⟩
    have hle : s1.heap.objs.size ≤ b := by
      simp only [List.mem_cons, List.not_mem_nil, or_false] at hb
      rcases hb with rfl | rfl
      · exact Nat.le_succ _
      · exact Nat.le_refl _
    exact I1.fpOk hle (I1.hok.fresh hle)
/-! ### enumerate(zip) -/
section
variable {prog : Program} {w : World} {A : Around} {E : Value → Shared → Prop} {s : Shared} {z I O i1 i2 e : Addr} {f1 f2 : List Addr} {n1 n2 i : Nat} {P1 P2 : Nat → Value → Prop} {S1 S2 : Nat → Heap → Prop} {a1 a2 out old : Value} {b : Bool} {c : Int}
theorem zg_nextOf {Q : Value → Shared → Prop} (D : ZipSep2 z I O i1 i2 f1 f2) (D1 : Draws prog w A.in1 i1 f1 n1 P1 S1) (D2 : Draws prog w A.in1 i2 f2 n2 P2 S2)
    (hz : Zg s.heap z I O out b) (ho : Zo out) (hI : Pr2 s.heap I (.ref i1) (.ref i2)) (hO : Pr2 s.heap O a1 a2) (st1 : S1 i s.heap) (st2 : S2 i s.heap) (h1 : i < n1) (h2 : i < n2)
    (k : ∀ x y g tk, P1 i x → P2 i y → After s z I O i1 i2 S1 S2 i x y g → Q (.ref s.heap.objs.size) { s with heap := g, toks := tk }) : wpAny (model prog w) A (Builtin.SmallTypes.nextOf (.ref z)) Q E s := by
  have hT : s.TypeIs (.ref z) "zip" := ⟨_, hz, rfl⟩
  unfold Builtin.SmallTypes.nextOf
  exact wpAny_bind (wpAny_callSpecial?_slot (name := Str.ofString "__next__") hT F.slot_zip_next (wpAny_call_entry F.slot_zip_next hT F.entry_zip_next (zg_next D D1 D2 hz ho hI hO st1 st2 h1 h2 fun x y g tk p1 p2 af => wpAny_pure (k x y g tk p1 p2 af)) (F.args_zip_next_1 _)))
theorem zg_nextOf_end {Q : Value → Shared → Prop} (D : ZipSep2 z I O i1 i2 f1 f2) (D1 : Draws prog w A.in1 i1 f1 n1 P1 S1) (D2 : Draws prog w A.in1 i2 f2 n2 P2 S2)
    (hz : Zg s.heap z I O out b) (ho : Zo out) (hI : Pr2 s.heap I (.ref i1) (.ref i2)) (hO : Pr2 s.heap O a1 a2) (st1 : S1 i s.heap) (st2 : S2 i s.heap) (h1 : i ≤ n1) (h2 : i ≤ n2) (he : i = n1 ∨ i = n2)
    (k : ∀ g tk e, (∀ c o, c ≠ z → c ≠ O → c ≠ i1 → c ≠ i2 → s.heap.get? c = some o → g.get? c = some o) → (∃ o, g.get? e = some o ∧ o.cls = .type "StopIteration") → E (.ref e) { s with heap := g, toks := tk }) :
    wpAny (model prog w) A (Builtin.SmallTypes.nextOf (.ref z)) Q E s := by
  have hT : s.TypeIs (.ref z) "zip" := ⟨_, hz, rfl⟩
  unfold Builtin.SmallTypes.nextOf
  exact wpAny_bind (wpAny_callSpecial?_slot (name := Str.ofString "__next__") hT F.slot_zip_next (wpAny_call_entry F.slot_zip_next hT F.entry_zip_next (zg_end D D1 D2 hz ho hI hO st1 st2 h1 h2 he k) (F.args_zip_next_1 _)))
theorem ez_next {Q : Option Value → Shared → Prop} (D : ZipSep2 z I O i1 i2 f1 f2) (D1 : Draws prog w A.in1.in1 i1 f1 n1 P1 S1) (D2 : Draws prog w A.in1.in1 i2 f2 n2 P2 S2) (ne : e ≠ z ∧ e ≠ O ∧ e ≠ I ∧ e ∉ f1 ∧ e ∉ f2)
    (hE : IsEnum s.heap e z c old) (hz : Zg s.heap z I O out b) (ho : Zo out) (hI : Pr2 s.heap I (.ref i1) (.ref i2)) (hO : Pr2 s.heap O a1 a2) (st1 : S1 i s.heap) (st2 : S2 i s.heap) (h1 : i < n1) (h2 : i < n2)
    (k : ∀ x y g g2 tk, P1 i x → P2 i y → After s z I O i1 i2 S1 S2 i x y g → IsEnumOut g2 e z (c + 1) (.ref s.heap.objs.size) (s.heap.objs.size + 1) → g2.get? (s.heap.objs.size + 1) = some { cls := .type "tuple", data := .seq #[.int c tk, .ref s.heap.objs.size] } →
      g2.objs.size = s.heap.objs.size + 2 → (∀ b o, b ≠ e → g.get? b = some o → g2.get? b = some o) → Q (some (.ref (s.heap.objs.size + 1))) { s with heap := g2, toks := tk + 1 }) : wpAny (model prog w) A (pyNext (.ref e)) Q E s := by
  have hT : s.TypeIs (.ref e) "enumerate" := ⟨_, hE, rfl⟩
  unfold pyNext
  refine wpAny_bind (wpAny_attempt (wpAny_callSpecial?_slot (name := Str.ofString "__next__") hT F.slot_enumerate_next (wpAny_call_entry F.slot_enumerate_next hT F.entry_enumerate_next ?_ (F.args_enumerate_next_1 _))))
  obtain ⟨hp, gs, dr, t0, os⟩ := s
  show wpAny _ _ (field (.ref e) 2 >>= fun v => _) _ _ _
  refine wpAny_bind (wpAny_field hE rfl (x := .ref z) rfl ?_)
  refine wpAny_bind (zg_nextOf D D1 D2 hz ho hI hO st1 st2 h1 h2 fun x y g tk hx hy af => ?_)
  have hm1 := D.mem1
  have hm2 := D.mem2
  have e1 : e ≠ i1 := fun q => ne.2.2.2.1 (q ▸ hm1)
  have e2 : e ≠ i2 := fun q => ne.2.2.2.2 (q ▸ hm2)
  have E1 : IsEnum g e z c old := af.keep e _ ne.1 ne.2.1 e1 e2 hE
  have hs1 : g.objs.size = hp.objs.size + 1 := af.size
  have kk := k x y g
  clear k
  show wpAny _ _ (field (.ref e) 3 >>= fun v => _) _ _ ⟨g, gs, dr, tk, os⟩
  refine wpAny_bind (wpAny_field E1 rfl (x := rawInt c) rfl ?_)
  show wpAny _ _ (field (.ref e) 4 >>= fun v => _) _ _ ⟨g, gs, dr, tk, os⟩
  refine wpAny_bind (wpAny_field E1 rfl (x := .none) rfl ?_)
  show wpAny _ _ (mkInt c >>= fun v => _) _ _ ⟨g, gs, dr, tk, os⟩
  refine wpAny_bind (wpAny_mkInt ?_)
  show wpAny _ _ (setField (.ref e) 3 (rawInt (c + 1)) >>= fun v => _) _ _ ⟨g, gs, dr, tk + 1, os⟩
  refine wpAny_bind (wpAny_setField_rec E1 (by simp) fun h2 y2 s2 => ?_)
  replace s2 : Heap.SameBut e g h2 := s2
  replace y2 : IsEnum h2 e z (c + 1) old := y2
  show wpAny _ _ (setField (.ref e) 4 .none >>= fun v => _) _ _ ⟨h2, gs, dr, tk + 1, os⟩
  refine wpAny_bind (wpAny_setField_rec y2 (by simp) fun h3 y3 s3 => ?_)
  replace s3 : Heap.SameBut e h2 h3 := s3
  replace y3 : IsEnum h3 e z (c + 1) old := y3
  show wpAny _ _ (newTuple [.int c tk, .ref hp.objs.size] >>= fun v => _) _ _ ⟨h3, gs, dr, tk + 1, os⟩
  refine wpAny_bind (wpAny_newTuple ?_)
  have hsz : h3.objs.size = hp.objs.size + 1 := by rw [s3.1, s2.1, hs1]
  have y4 : IsEnum (h3.push { cls := .type "tuple", data := .seq #[.int c tk, .ref hp.objs.size] }) e z (c + 1) old := Heap.get?_push_of_some _ y3
  have t4 : (h3.push { cls := .type "tuple", data := .seq #[.int c tk, .ref hp.objs.size] }).get? (hp.objs.size + 1) = some { cls := .type "tuple", data := .seq #[.int c tk, .ref hp.objs.size] } := by
    rw [← hsz]
    exact Heap.get?_push_size _ rfl
  have z4 : (h3.push { cls := .type "tuple", data := .seq #[.int c tk, .ref hp.objs.size] }).objs.size = hp.objs.size + 2 := by rw [Heap.size_push, hsz]
  have k4 : ∀ b o, b ≠ e → g.get? b = some o → (h3.push { cls := .type "tuple", data := .seq #[.int c tk, .ref hp.objs.size] }).get? b = some o := fun b o hb q => Heap.get?_push_of_some _ (s3.extBut b o hb (s2.extBut b o hb q))
  have hel : e < hp.objs.size := Heap.lt_size hE
  have n1e : hp.objs.size + 1 ≠ e := Nat.ne_of_gt (Nat.lt_succ_of_lt hel)
  show wpAny _ _ (Builtin.SmallTypes.ownedTupleIsFree (.ref e) >>= fun v => _) _ _ ⟨h3.push { cls := .type "tuple", data := .seq #[.int c tk, .ref hp.objs.size] }, gs, dr, tk + 1, os⟩
  rw [hsz]
  generalize h3.push { cls := .type "tuple", data := .seq #[.int c tk, .ref hp.objs.size] } = h4 at y4 t4 z4 k4 ⊢
  refine wpAny_bind ?_
  unfold Builtin.SmallTypes.ownedTupleIsFree
  refine wpAny_bind (wpAny_field y4 rfl (x := .none) rfl (wpAny_pure ?_))
  simp only [if_true]
  refine wpAny_bind (wpAny_rule ?_)
  refine wpAny_bind (wpAny_field y4 rfl (x := old) rfl ?_)
  refine wpAny_bind (wpAny_setField_rec y4 (by simp) fun h5 y5 s5 => ?_)
  replace s5 : Heap.SameBut e h4 h5 := s5
  replace y5 : IsEnum h5 e z (c + 1) (.ref hp.objs.size) := y5
  show wpAny _ _ (Builtin.SmallTypes.ownedTupleHandOut (.ref e) (.ref (hp.objs.size + 1)) >>= fun v => _) _ _ ⟨h5, gs, dr, tk + 1, os⟩
  refine wpAny_bind ?_
  unfold Builtin.SmallTypes.ownedTupleHandOut
  refine wpAny_bind (wpAny_setField_rec y5 (by simp) fun h6 y6 s6 => ?_)
  replace s6 : Heap.SameBut e h5 h6 := s6
  replace y6 : IsEnumOut h6 e z (c + 1) (.ref hp.objs.size) (hp.objs.size + 1) := y6
  refine wpAny_setField_rec y6 (by simp) fun h7 y7 s7 => ?_
  replace s7 : Heap.SameBut e h6 h7 := s7
  replace y7 : IsEnumOut h7 e z (c + 1) (.ref hp.objs.size) (hp.objs.size + 1) := y7
  refine wpAny_bind (wpAny_letGo (wpAny_pure ⟨_, rfl, wpAny_pure (kk h7 tk hx hy af y7 ?_ ?_ fun b o hb q => ?_)⟩))
  · exact s7.extBut _ _ n1e (s6.extBut _ _ n1e (s5.extBut _ _ n1e t4))
  · show h7.objs.size = hp.objs.size + 2
    rw [s7.1, s6.1, s5.1, z4]
  · exact s7.extBut b o hb (s6.extBut b o hb (s5.extBut b o hb (k4 b o hb q)))
theorem ez_end {Q : Option Value → Shared → Prop} (D : ZipSep2 z I O i1 i2 f1 f2) (D1 : Draws prog w A.in1.in1 i1 f1 n1 P1 S1) (D2 : Draws prog w A.in1.in1 i2 f2 n2 P2 S2)
    (hE : IsEnum s.heap e z c old) (hz : Zg s.heap z I O out b) (ho : Zo out) (hI : Pr2 s.heap I (.ref i1) (.ref i2)) (hO : Pr2 s.heap O a1 a2) (st1 : S1 i s.heap) (st2 : S2 i s.heap) (h1 : i ≤ n1) (h2 : i ≤ n2) (he : i = n1 ∨ i = n2)
    (k : ∀ g tk, (∀ c o, c ≠ z → c ≠ O → c ≠ i1 → c ≠ i2 → s.heap.get? c = some o → g.get? c = some o) → Q none { s with heap := g, toks := tk }) : wpAny (model prog w) A (pyNext (.ref e)) Q E s := by
  have hT : s.TypeIs (.ref e) "enumerate" := ⟨_, hE, rfl⟩
  unfold pyNext
  refine wpAny_bind (wpAny_attempt (wpAny_callSpecial?_slot (name := Str.ofString "__next__") hT F.slot_enumerate_next (wpAny_call_entry F.slot_enumerate_next hT F.entry_enumerate_next ?_ (F.args_enumerate_next_1 _))))
  show wpAny _ _ (field (.ref e) 2 >>= fun v => _) _ _ _
  refine wpAny_bind (wpAny_field hE rfl (x := .ref z) rfl ?_)
  refine wpAny_bind (zg_nextOf_end D D1 D2 hz ho hI hO st1 st2 h1 h2 he fun g tk x hk hx => ?_)
  obtain ⟨o, q1, q2⟩ := hx
  refine wpAny_bind (wpAny_isInstance (T := "StopIteration") (b := true) ⟨o, q1, q2⟩ isSubtype_stop ?_)
  exact wpAny_pure (k _ _ hk)
end
end Gz

set_option Elab.async false
set_option linter.all false
set_option maxRecDepth 100000
set_option maxHeartbeats 1000000
namespace Gz
open PySem PySem.Spec PyProof.Rows L2
open Sem (wp)
def Jn (K : PySem.W.Frag) (k1 k2 : Sk) (a b : Addr) (us ws : List V) : It :=
  ⟨fun i H => i < min us.length ws.length ∧ k1.Sq K H a us ∧ k2.Sq K H b ws, fun i H v H' => ∃ T q x y, v = .ref q ∧ H T = none ∧ upd H T (.tup [x, y]) q = none ∧ H' = upd (upd H T (.tup [x, y])) q (.tup [.int (i : Nat), .ref T]) ∧ us[i]? = some x ∧ ws[i]? = some y,
    fun i H => i = min us.length ws.length ∧ k1.Sq K H a us ∧ k2.Sq K H b ws⟩
theorem six {c e z I O i1 i2 : Addr} (h : c ∈ [e, z, I, O, i1, i2]) : c = e ∨ c = z ∨ c = I ∨ c = O ∨ c = i1 ∨ c = i2 := by simpa using h
theorem turn_ez {P : Program} {w : World} {K : PySem.W.Frag} {elts : List Expr} {kk : Nat} {tpos : Pos} {k1 k2 : Sk} {a b e z I O i1 i2 : Addr} {us ws : List V} (D : ZipSep2 z I O i1 i2 [i1, a] [i2, b]) (ha : a ≠ i1) (hb : b ≠ i2) (ne : e ≠ z ∧ e ≠ O ∧ e ≠ I ∧ e ∉ [i1, a] ∧ e ∉ [i2, b]) :
    Turn P w K (.Tuple elts kk tpos) (Jn K k1 k2 a b us ws) [e, z, I, O, i1, i2] e (fun i h => (∃ old, IsEnum h e z ((i : Nat) : Int) old) ∧ (∃ out b, Zo out ∧ Zg h z I O out b) ∧ Pr2 h I (.ref i1) (.ref i2) ∧ (∃ x y, Pr2 h O x y) ∧ k1.At h i1 a i ∧ k2.At h i2 b i) where
  mem := by simp
  obj := fun i h st c hc => by
    obtain ⟨⟨old, he⟩, ⟨out, b, ho, hz⟩, hI, ⟨x, y, hO⟩, h1, h2⟩ := st
    rcases six hc with rfl | rfl | rfl | rfl | rfl | rfl
    · exact ⟨_, he, fun v q => nomatch q⟩
    · exact ⟨_, hz, fun v q => nomatch q⟩
    · exact ⟨_, hI, fun v q => nomatch q⟩
    · exact ⟨_, hO, fun v q => nomatch q⟩
    · exact sk_live k1 h1
    · exact sk_live k2 h2
  keep := fun i h h' st k => by
    obtain ⟨⟨old, he⟩, ⟨out, b, ho, hz⟩, hI, ⟨x, y, hO⟩, h1, h2⟩ := st
    exact ⟨⟨old, k e (by simp) _ he⟩, ⟨out, b, ho, k z (by simp) _ hz⟩, k I (by simp) _ hI, ⟨x, y, k O (by simp) _ hO⟩, sk_keep k1 h1 fun o q => k i1 (by simp) o q, sk_keep k2 h2 fun o q => k i2 (by simp) o q⟩
  item := by
    intro X hP hw hK hc i pins s σ H E Iv hf st hg
    subst hP hw hK
    obtain ⟨⟨old, he⟩, ⟨out, b', ho, hz⟩, hI, ⟨x0, y0, hO⟩, h1, h2⟩ := st
    obtain ⟨hi, q1, q2⟩ := hg
    obtain ⟨it1, rv1, p1⟩ := sk_inv k1 Iv q1
    obtain ⟨it2, rv2, p2⟩ := sk_inv k2 Iv q2
    have l1 := rv1.length
    have l2 := rv2.length
    have hel : e < s.heap.objs.size := Heap.lt_size he
    have hd : X.A.in1.in1.handled = none := Iv.ok.hd hc
    have lt : ∀ c ∈ [e, z, I, O, i1, i2], c < s.heap.objs.size := fun c hcm => by
      obtain ⟨o1, e1, _⟩ := sk_live k1 h1
      obtain ⟨o2, e2, _⟩ := sk_live k2 h2
      rcases six hcm with rfl | rfl | rfl | rfl | rfl | rfl
      · exact hel
      · exact Heap.lt_size hz
      · exact Heap.lt_size hI
      · exact Heap.lt_size hO
      · exact Heap.lt_size e1
      · exact Heap.lt_size e2
    refine ez_next D (sk_draws hd k1 i1 a ha it1.toArray) (sk_draws hd k2 i2 b hb it2.toArray) ne he hz ho hI hO ⟨h1, p1⟩ ⟨h2, p2⟩ (by simp; omega) (by simp; omega) fun u v g g2 tk hu hv af eo hT hsz hk => ?_
    obtain ⟨x, hx, rx⟩ := vals_at rv1 hu
    obtain ⟨y, hy, ry⟩ := vals_at rv2 hv
    have n0 : s.heap.objs.size + 1 ≠ e := Nat.ne_of_gt (Nat.lt_succ_of_lt hel)
    refine ⟨_, rfl, wpAny_letOwnedTupleGo_enum (s := { s with heap := g2, toks := tk + 1 }) eo fun h'' he' sb => ?_⟩
    have up : ∀ c o, c ≠ e → g.get? c = some o → h''.get? c = some o := fun c o hc q => (sb.2 c hc).trans (hk c o hc q)
    have hT2 : h''.get? (s.heap.objs.size + 1) = some { cls := .type "tuple", data := .seq #[.int (i : Nat) tk, .ref s.heap.objs.size] } := (sb.2 _ n0).trans hT
    have new1 : ObjOk X.prog X.w (upd H s.heap.objs.size (.tup [x, y])) g s.heap.objs.size (.tup [x, y]) := ⟨by show 2 ≤ sizeLine; decide, [u, v], .cons rx (.cons ry .nil), ⟨_, af.new, rfl, _, rfl⟩⟩
    have I1 := Iv.turnedNew (t' := tk) (ch := [e, z, I, O, i1, i2]) (fun c o hb q => af.keep c o (fun q' => hb (by simp [q'])) (fun q' => hb (by simp [q'])) (fun q' => hb (by simp [q'])) (fun q' => hb (by simp [q'])) q) hf (Nat.le_refl _) new1
    have hf1 : ∀ c ∈ [e, z, I, O, i1, i2], FpOk X pins (upd H s.heap.objs.size (.tup [x, y])) c := fun c hcm => ⟨by rw [upd_ne (Nat.ne_of_lt (lt c hcm))]; exact (hf c hcm).1, (hf c hcm).2⟩
    have hle : g.objs.size ≤ s.heap.objs.size + 1 := Nat.le_of_eq af.size
    have new2 : ObjOk X.prog X.w (upd (upd H s.heap.objs.size (.tup [x, y])) (s.heap.objs.size + 1) (.tup [.int (i : Nat), .ref s.heap.objs.size])) h'' (s.heap.objs.size + 1) (.tup [.int (i : Nat), .ref s.heap.objs.size]) :=
      ⟨by show 2 ≤ sizeLine; decide, [.int (i : Nat) tk, .ref s.heap.objs.size], .cons ⟨_, rfl⟩ (.cons rfl .nil), ⟨_, hT2, rfl, _, rfl⟩⟩
    have I2 := I1.turnedNew (t' := tk + 1) (ch := [e, z, I, O, i1, i2]) (fun c o hb q => up c o (fun q' => hb (by simp [q'])) q) hf1 hle new2
    refine ⟨.ref (s.heap.objs.size + 1), _, I2, rfl, ⟨_, _, x, y, rfl, Iv.hok.fresh (Nat.le_refl _), I1.hok.fresh hle, rfl, hx, hy⟩, ⟨⟨.ref s.heap.objs.size, ?_⟩, ?_, ?_, ?_, ?_, ?_⟩, fun c hcm => ?_⟩
    · have e1 : ((i + 1 : Nat) : Int) = (i : Int) + 1 := by omega
      rw [e1]
      exact he'
    · obtain ⟨o2, b2, g1, g3⟩ := af.zg
      exact ⟨o2, b2, g1, up _ _ ne.1.symm g3⟩
    · exact up _ _ ne.2.2.1.symm af.inn
    · obtain ⟨u2, v2, g3⟩ := af.outp
      exact ⟨u2, v2, up _ _ ne.2.1.symm g3⟩
    · exact sk_keep k1 af.s1.1 fun o q => up _ _ (fun z => ne.2.2.2.1 (by simp [z])) q
    · exact sk_keep k2 af.s2.1 fun o q => up _ _ (fun z => ne.2.2.2.2 (by simp [z])) q
    · have := lt c hcm
      rw [upd_ne (Nat.ne_of_lt (Nat.lt_succ_of_lt this))]
      exact (hf1 c hcm).1
  done := by
    intro X hP hw hK hc i pins s σ H E Iv hf st hg
    subst hP hw hK
    obtain ⟨⟨old, he⟩, ⟨out, b', ho, hz⟩, hI, ⟨x0, y0, hO⟩, h1, h2⟩ := st
    obtain ⟨hi, q1, q2⟩ := hg
    obtain ⟨it1, rv1, p1⟩ := sk_inv k1 Iv q1
    obtain ⟨it2, rv2, p2⟩ := sk_inv k2 Iv q2
    have l1 := rv1.length
    have l2 := rv2.length
    have hd : X.A.in1.in1.handled = none := Iv.ok.hd hc
    refine ez_end D (sk_draws hd k1 i1 a ha it1.toArray) (sk_draws hd k2 i2 b hb it2.toArray) he hz ho hI hO ⟨h1, p1⟩ ⟨h2, p2⟩ (by simp; omega) (by simp; omega) (by simp; omega) fun h' tk hk => ⟨rfl, ?_⟩
    exact Iv.turnedL (t' := tk) (ch := [e, z, I, O, i1, i2]) (fun c o hb q => hk c o (fun q' => hb (by simp [q'])) (fun q' => hb (by simp [q'])) (fun q' => hb (by simp [q'])) (fun q' => hb (by simp [q'])) q) hf
  self := fun A i s Q E st h => let ⟨⟨_, he⟩, _⟩ := st; wpAny_pyIter_enum he h
def iEZ (K : PySem.W.Frag) (ta : TA) : TI := fun σ H R => ta σ H fun vs H1 => ∃ (k1 k2 : Sk) (a b : Addr) (us ws : List V), vs = [.ref a, .ref b] ∧ k1.Sq K H1 a us ∧ k2.Sq K H1 b ws ∧ R (Jn K k1 k2 a b us ws) H1
theorem sixN {c n : Nat} (h : c ∈ [n + 5, n + 4, n + 2, n + 3, n, n + 1]) : n ≤ c := by
  simp only [List.mem_cons, List.not_mem_nil, or_false] at h
  omega
theorem pi_ez {X : Cx} {e e2 : Expr} {ta : TA} {p p2 pos pos2 tpos : Pos} {elts : List Expr} {kk : Nat} (hg : Gl X "zip") (hm : X.mg "zip" = none) (hge : Gl X "enumerate") (hme : X.mg "enumerate" = none) (ha : PA X [e, e2] ta)
    (hs : starEach [e, e2] X.env = (false, eval e X.env) :: starEach [e2] X.env := by rfl) (hpl : (backTo pos (starEach [e2] X.env)).any (·.1) = false := by rfl)
    (hs2 : starEach [.Call (.Name "zip" p) [e, e2] [] pos] X.env = [(false, eval (.Call (.Name "zip" p) [e, e2] [] pos) X.env)] := by rfl) :
    PI X (.Tuple elts kk tpos) (.Call (.Name "enumerate" p2) [.Call (.Name "zip" p) [e, e2] [] pos] [] pos2) (iEZ X.K ta) := by
  refine ⟨fun pins s σ H R I h => ?_⟩
  refine Call_ (ld_blt I hge hme boot_enumerate (PyProof.Rows.callWith_type1 ?_ hs2 rfl))
  rw [hs2]
  refine Calls.spliced_cons ?_
  refine Call_ (ld_blt I hg hm PyProof.Rows.boot_zip (PyProof.Rows.callWith_type1 (thn (ha.run pos pins s σ H _ I h) fun us s1 ⟨vs, H1, I1, r1, q1⟩ => ?_) hs hpl))
  obtain ⟨k1, k2, a, b, us, ws, ex, g1, g2, q⟩ := q1
  subst ex
  cases r1 with
  | cons r rr =>
    cases rr with
    | cons r' rr =>
      cases rr
      cases r
      cases r'
      obtain ⟨it1, rv1, p1⟩ := sk_inv k1 I1 g1
      obtain ⟨it2, rv2, p2⟩ := sk_inv k2 I1 g2
      have la := sk_lt k1 p1
      have lb := sk_lt k2 p2
      refine zip_begins2 (sk_begins k1 a it1.toArray) (sk_begins k2 b it2.toArray) p1 p2 fun h' hz hI hO h1 h2 hsz hk => ?_
      refine Calls.spliced_nil ?_
      refine call_en1 (s := { s1 with heap := h' }) (itv := .ref (s1.heap.objs.size + 4)) (h1 := h') (fun prog w A E Q hq => wpAny_pyIter_zip hz hq) ?_
      have he : IsEnum (h'.push (EnO (.ref (s1.heap.objs.size + 4)))) (s1.heap.objs.size + 5) (s1.heap.objs.size + 4) 0 .none := by
        have z := Heap.get?_push_size h' (o := EnO (.ref (s1.heap.objs.size + 4))) rfl
        rw [hsz] at z
        exact z
      have up : ∀ c o, h'.get? c = some o → (h'.push (EnO (.ref (s1.heap.objs.size + 4)))).get? c = some o := fun c o x => Heap.get?_push_of_some _ x
      show wpAny _ _ _ _ _ _
      rw [show ({ s1 with heap := h' } : Shared).heap.objs.size = s1.heap.objs.size + 5 from hsz] at *
      refine wpAny_pyIter_enum he ?_
      have n5 : ∀ c d : Addr, c < s1.heap.objs.size → s1.heap.objs.size + 5 ≠ c := fun c d h => Nat.ne_of_gt (Nat.lt_of_lt_of_le h (Nat.le_add_right _ _))
      exact ⟨s1.heap.objs.size + 5, [s1.heap.objs.size + 5, s1.heap.objs.size + 4, s1.heap.objs.size + 2, s1.heap.objs.size + 3, s1.heap.objs.size, s1.heap.objs.size + 1], _, _, H1, rfl, I1.kept (t' := s1.toks) fun c o x => up c o (hk c o x),
        turn_ez (zip_sep2 (fun c hc => by rw [List.mem_singleton.mp hc]; exact la) (fun c hc => by rw [List.mem_singleton.mp hc]; exact lb)) (Nat.ne_of_lt la) (Nat.ne_of_lt (Nat.lt_succ_of_lt lb))
          ⟨by show (_ + 5 : Nat) ≠ _ + 4; omega, by show (_ + 5 : Nat) ≠ _ + 3; omega, by show (_ + 5 : Nat) ≠ _ + 2; omega, fun hc => by
            rcases List.mem_cons.mp hc with h | h
            · exact absurd h (by show ¬ ((_ + 5 : Nat) = _); omega)
            · exact n5 a a la (List.mem_singleton.mp h), fun hc => by
            rcases List.mem_cons.mp hc with h | h
            · exact absurd h (by show ¬ ((_ + 5 : Nat) = _ + 1); omega)
            · exact n5 b b lb (List.mem_singleton.mp h)⟩,
        ⟨⟨_, he⟩, ⟨.none, false, .inl rfl, up _ _ hz⟩, up _ _ hI, ⟨_, _, up _ _ hO⟩, sk_keep k1 (sk_at0 k1 h1) fun o q => up _ _ q, sk_keep k2 (sk_at0 k2 h2) fun o q => up _ _ q⟩, fun c hc => I1.fpOk (sixN hc) (I1.hok.fresh (sixN hc)), q⟩
end Gz
namespace Dn
open PySem PySem.Spec PyProof.Rows L2 Gz
section
variable {X : Cx} {p : Pm} {ρ ρ1 : Rho} {a b tg : Expr} {pos pos2 : Pos} {xs ys : List PyData} {K : PySem.W.Frag} {B : Hp} {us ws : List V} {i : Nat}
theorem dp_sk {H : Hp} {v : V} (k : Sk) (h : Dp K H v (k.lp xs)) : ∃ a us, v = .ref a ∧ k.Sq K H a us ∧ DpAll K H us xs := by
  cases k with
  | l => exact dp_list h
  | t => exact dp_tup h
theorem same_sk {H H' : Hp} (k : Sk) (e : Same H H') {a : Addr} (h : k.Sq K H a us) : k.Sq K H' a us := by
  cases k with
  | l => exact e.seq h
  | t => exact same_t e h
theorem iv_z (k1 k2 : Sk) {pp tpos : Pos} {elts : List Expr} {kk : Nat} (hm : X.mg "zip" = none) (h : RA X p [a, b] ρ [.da (k1.lp xs), .da (k2.lp ys)] ρ1) (hg : Gl X "zip" := by rfl)
    (hs : starEach [a, b] X.env = (false, eval a X.env) :: starEach [b] X.env := by rfl) (hpl : (backTo pos (starEach [b] X.env)).any (·.1) = false := by rfl) : IV X p (.Tuple elts kk tpos) (.Call (.Name "zip" pp) [a, b] [] pos) ρ (zipD xs ys) ρ1 := by
  obtain ⟨t, pt, et⟩ := h
  refine ⟨_, pi_z hg hm pt hs hpl, fun σ H B w F R k0 => et σ H B w F _ fun vs H' B' w' s F' i => ?_⟩
  obtain ⟨v, u, rfl, i1, i2⟩ := itvs2 i
  obtain ⟨l, us, rfl, sq1, d1⟩ := dp_sk k1 i1
  obtain ⟨m, ws, rfl, sq2, d2⟩ := dp_sk k2 i2
  refine ⟨k1, k2, l, m, us, ws, rfl, same_sk k1 F'.ext sq1, same_sk k2 F'.ext sq2, k0 _ H' B' w' s F' (walkd_pair (G := fun H => k1.Sq X.K H l us ∧ k2.Sq X.K H m ws) ⟨fun i H hi g => ⟨hi, g⟩, fun H g => ⟨rfl, g⟩, fun i H x H' hi g y => y⟩ (fun B2 H2 s1 s2 => ⟨same_sk k1 s2 (same_sk k1 s1 sq1), same_sk k2 s2 (same_sk k2 s1 sq2)⟩) d1 d2)⟩
/-- pairs of place and item -/
def enumD (xs : List PyData) : List PyData := xs.mapIdx fun i x => .tuple [.int (i : Nat), x]
theorem enumD_len : (enumD xs).length = xs.length := List.length_mapIdx
theorem enumD_get {x : PyData} (h : xs[i]? = some x) : (enumD xs)[i]? = some (.tuple [.int (i : Nat), x]) := by
  unfold enumD
  rw [List.getElem?_mapIdx, h]
  rfl
theorem iv_e (k : Sk) {pp tpos : Pos} {elts : List Expr} {kk : Nat} (hm : X.mg "enumerate" = none) (h : RA X p [a] ρ [.da (k.lp xs)] ρ1) (hg : Gl X "enumerate" := by rfl)
    (hs : starEach [a] X.env = [(false, eval a X.env)] := by rfl) : IV X p (.Tuple elts kk tpos) (.Call (.Name "enumerate" pp) [a] [] pos) ρ (enumD xs) ρ1 := by
  obtain ⟨t, pt, et⟩ := h
  refine ⟨_, pi_e hg hm pt hs, fun σ H B w F R k0 => et σ H B w F _ fun vs H' B' w' s F' i => ?_⟩
  obtain ⟨v, rfl, i1⟩ := itvs1 i
  obtain ⟨l, us, rfl, sq1, d1⟩ := dp_sk k i1
  have hl := dpa_len d1
  refine ⟨k, l, us, rfl, same_sk k F'.ext sq1, k0 _ H' B' w' s F' ⟨fun H => k.Sq X.K H l us, _, ⟨fun i H hi g => ⟨by rw [hl]; rw [enumD_len] at hi; exact hi, g⟩, fun H g => ⟨by rw [enumD_len, hl], g⟩, fun i H x H' hi g y => y⟩, fun B2 H2 s1 s2 => same_sk k s2 (same_sk k s1 sq1), fun i H2 B2 v H3 s1 s2 hi y => ?_⟩⟩
  obtain ⟨T, x, e, hT, eH, h1⟩ := y
  obtain ⟨x', g1, g2⟩ := dpa_get' d1 h1
  exact ⟨_, enumD_get g1, .inr (.inl ⟨T, _, _, hT, eH, e, rfl, .cons (.int _) (.cons (dp_mono s1 g2) .nil)⟩)⟩
theorem iv_ez (k1 k2 : Sk) {pp pp2 tpos : Pos} {elts : List Expr} {kk : Nat} (hm : X.mg "zip" = none) (hme : X.mg "enumerate" = none) (h : RA X p [a, b] ρ [.da (k1.lp xs), .da (k2.lp ys)] ρ1) (hg : Gl X "zip" := by rfl) (hge : Gl X "enumerate" := by rfl)
    (hs : starEach [a, b] X.env = (false, eval a X.env) :: starEach [b] X.env := by rfl) (hpl : (backTo pos (starEach [b] X.env)).any (·.1) = false := by rfl)
    (hs2 : starEach [.Call (.Name "zip" pp) [a, b] [] pos] X.env = [(false, eval (.Call (.Name "zip" pp) [a, b] [] pos) X.env)] := by rfl) :
    IV X p (.Tuple elts kk tpos) (.Call (.Name "enumerate" pp2) [.Call (.Name "zip" pp) [a, b] [] pos] [] pos2) ρ (enumD (zipD xs ys)) ρ1 := by
  obtain ⟨t, pt, et⟩ := h
  refine ⟨_, pi_ez hg hm hge hme pt hs hpl hs2, fun σ H B w F R k0 => et σ H B w F _ fun vs H' B' w' s F' i => ?_⟩
  obtain ⟨v, u, rfl, i1, i2⟩ := itvs2 i
  obtain ⟨l, us, rfl, sq1, d1⟩ := dp_sk k1 i1
  obtain ⟨m, ws, rfl, sq2, d2⟩ := dp_sk k2 i2
  have hl : (enumD (zipD xs ys)).length = min us.length ws.length := by rw [enumD_len, zipD_len, dpa_len d1, dpa_len d2]
  refine ⟨k1, k2, l, m, us, ws, rfl, same_sk k1 F'.ext sq1, same_sk k2 F'.ext sq2, k0 _ H' B' w' s F' ⟨fun H => k1.Sq X.K H l us ∧ k2.Sq X.K H m ws, _, ⟨fun i H hi g => ⟨by rw [← hl]; exact hi, g⟩, fun H g => ⟨hl, g⟩, fun i H x H' hi g y => y⟩,
    fun B2 H2 s1 s2 => ⟨same_sk k1 s2 (same_sk k1 s1 sq1), same_sk k2 s2 (same_sk k2 s1 sq2)⟩, fun i H2 B2 v H3 s1 s2 hi y => ?_⟩⟩
  obtain ⟨T, q, x, y, e, hT, hq, eH, h1, h2⟩ := y
  obtain ⟨x', g1, g2⟩ := dpa_get' d1 h1
  obtain ⟨y', g3, g4⟩ := dpa_get' d2 h2
  exact ⟨_, enumD_get (zipD_get g1 g3), .inr (.inr ⟨T, _, [x', y'], q, _, _, hT, hq, eH, e, rfl, .cons (dp_mono s1 g2) (.cons (dp_mono s1 g4) .nil), .cons (.int _) (.cons (.tup (.inl (.inl upd_same)) (.cons (dp_mono (same_new (same_none s2 hT)) (dp_mono s1 g2)) (.cons (dp_mono (same_new (same_none s2 hT)) (dp_mono s1 g4)) .nil))) .nil)⟩)⟩
end
end Dn

set_option Elab.async false
set_option linter.all false
set_option maxRecDepth 100000
set_option maxHeartbeats 1000000
/-! list(zip(a, b)) -/
namespace Gz
open PySem PySem.Spec PyProof.Rows L2
open Sem (wp)
theorem zip_nolen : typeLookup (.type "zip") "__len__" = pure none := by rw [typeLookup_type, builtinLookup_eq_fast]; kernel_rfl
theorem zip_nohint : typeLookup (.type "zip") "__length_hint__" = pure none := by rw [typeLookup_type, builtinLookup_eq_fast]; kernel_rfl
section
variable {prog : Program} {w : World} {A : Around} {E : Value → Shared → Prop} {s : Shared} {z I O i1 i2 e : Addr} {f1 f2 : List Addr} {n1 n2 i : Nat} {P1 P2 : Nat → Value → Prop} {S1 S2 : Nat → Heap → Prop} {a1 a2 out old : Value} {b : Bool} {c : Int}
theorem zg_pyNext {Q : Option Value → Shared → Prop} (D : ZipSep2 z I O i1 i2 f1 f2) (D1 : Draws prog w A.in1 i1 f1 n1 P1 S1) (D2 : Draws prog w A.in1 i2 f2 n2 P2 S2)
    (hz : Zg s.heap z I O out b) (ho : Zo out) (hI : Pr2 s.heap I (.ref i1) (.ref i2)) (hO : Pr2 s.heap O a1 a2) (st1 : S1 i s.heap) (st2 : S2 i s.heap) (h1 : i < n1) (h2 : i < n2)
    (k : ∀ x y g tk, P1 i x → P2 i y → After s z I O i1 i2 S1 S2 i x y g → Q (some (.ref s.heap.objs.size)) { s with heap := g, toks := tk }) : wpAny (model prog w) A (pyNext (.ref z)) Q E s := by
  have hT : s.TypeIs (.ref z) "zip" := ⟨_, hz, rfl⟩
  unfold pyNext
  exact wpAny_bind (wpAny_attempt (wpAny_callSpecial?_slot (name := Str.ofString "__next__") hT F.slot_zip_next (wpAny_call_entry F.slot_zip_next hT F.entry_zip_next (zg_next D D1 D2 hz ho hI hO st1 st2 h1 h2 fun x y g tk p1 p2 af => wpAny_pure (k x y g tk p1 p2 af)) (F.args_zip_next_1 _))))
theorem zg_pyNext_end {Q : Option Value → Shared → Prop} (D : ZipSep2 z I O i1 i2 f1 f2) (D1 : Draws prog w A.in1 i1 f1 n1 P1 S1) (D2 : Draws prog w A.in1 i2 f2 n2 P2 S2)
    (hz : Zg s.heap z I O out b) (ho : Zo out) (hI : Pr2 s.heap I (.ref i1) (.ref i2)) (hO : Pr2 s.heap O a1 a2) (st1 : S1 i s.heap) (st2 : S2 i s.heap) (h1 : i ≤ n1) (h2 : i ≤ n2) (he : i = n1 ∨ i = n2)
    (k : ∀ g tk, (∀ c o, c ≠ z → c ≠ O → c ≠ i1 → c ≠ i2 → s.heap.get? c = some o → g.get? c = some o) → Q none { s with heap := g, toks := tk }) : wpAny (model prog w) A (pyNext (.ref z)) Q E s := by
  have hT : s.TypeIs (.ref z) "zip" := ⟨_, hz, rfl⟩
  unfold pyNext
  refine wpAny_bind (wpAny_attempt (wpAny_callSpecial?_slot (name := Str.ofString "__next__") hT F.slot_zip_next (wpAny_call_entry F.slot_zip_next hT F.entry_zip_next (zg_end D D1 D2 hz ho hI hO st1 st2 h1 h2 he fun g tk e hk hx => ?_) (F.args_zip_next_1 _))))
  obtain ⟨o, q1, q2⟩ := hx
  refine wpAny_bind (wpAny_isInstance (T := "StopIteration") (b := true) ⟨o, q1, q2⟩ isSubtype_stop ?_)
  exact wpAny_pure (k _ _ hk)
end
/-- an object of ours is tracked from now on -/
theorem inv_track {X : Cx} {pins : List (Addr × Obj)} {σ : L2.St} {H : Hp} {s : Shared} {S : Addr} {ob : HO} (I : Inv X pins σ H s) (hf : FpOk X pins H S) (new : ObjOk X.prog X.w (upd H S ob) s.heap S ob) : Inv X pins σ (upd H S ob) s := by
  have hn := hf.1
  refine I.step (h' := s.heap) (t' := s.toks) (g' := s.gens) (d' := s.drawn) (ch := [S]) (fun b hb => ?_) (fun b o _ _ hc e _ => e) (fun b o _ _ hc e _ => ⟨o.slots, e⟩) (fun b o hc e n => ?_) (fun b o hc e => ⟨o, e⟩) (fun b xs e => ?_) (fun b o u e => ?_) (fun b ps e => ⟨#[], ?_⟩) (fun m hm => hm) (fun b u e => ?_) I.bare
  · rw [List.mem_singleton.mp hb]
    exact ⟨hf.2.2.2.1, hf.2.1, hf.2.2.2.2.1, hf.2.2.2.2.2⟩
  · rw [upd_ne (fun z => hc (by simp [z]))]
    exact n
  · rw [upd_ne (ne_of_none e hn)]
    exact e
  · rw [upd_ne (ne_of_none e hn)]
    exact e
  · rw [upd_ne (ne_of_none e hn), e]
    simp
  · by_cases hb : b = S
    · subst hb
      rw [upd_same] at e
      cases e
      exact new
    · rw [upd_ne hb] at e
      refine (I.hok b u e).stay (fun c v hc q => q) (fun c q => ?_) fun c xs q => ?_
      · rw [upd_ne (ne_of_none q hn)]
        exact q
      · rw [upd_ne (ne_of_none q hn)]
        exact q
/-- pairs laid one behind the other -/
inductive Grow : Hp → Hp → List (Addr × V × V) → Prop
  | nil {H : Hp} : Grow H H []
  | snoc {H H' : Hp} {ts : List (Addr × V × V)} {T : Addr} {x y : V} : Grow H H' ts → H' T = none → Grow H (upd H' T (.tup [x, y])) (ts ++ [(T, x, y)])
section
variable {X : Cx} {pins : List (Addr × Obj)} {σ : L2.St} {k1 k2 : Sk} {a b z I O i1 i2 S : Addr} {us ws : List V} {R : Result → Shared → Prop}
/-- the state ahead of turn i -/
structure Lz (X : Cx) (pins : List (Addr × Obj)) (σ : L2.St) (H0 : Hp) (k1 k2 : Sk) (a b z I O i1 i2 S : Addr) (us ws : List V) (i : Nat) (s : Shared) (acc : Array Value) (H : Hp) (ts : List (Addr × V × V)) : Prop where
  inv : Inv X pins σ H s
  grow : Grow H0 H ts
  zs : ts.map (·.2) = (us.zip ws).take i
  vals : Vals (ts.map fun t => V.ref t.1) acc.toList
  hS : ∃ c, s.heap.get? S = some { cls := .type "list", dict := none, data := .seq acc c, slots := #[] }
  fp : ∀ x ∈ [S, z, I, O, i1, i2], FpOk X pins H x
  zg : ∃ out b, Zo out ∧ Zg s.heap z I O out b
  inn : Pr2 s.heap I (.ref i1) (.ref i2)
  outp : ∃ u v, Pr2 s.heap O u v
  at1 : k1.At s.heap i1 a i
  at2 : k2.At s.heap i2 b i
  q1 : k1.Sq X.K H a us
  q2 : k2.Sq X.K H b ws
theorem sq_grow {H : Hp} {T : Addr} {x y : V} (k : Sk) (hT : H T = none) (q : k.Sq X.K H a us) : k.Sq X.K (upd H T (.tup [x, y])) a us := Dn.same_sk k (Dn.same_new hT) q
theorem lz_loop {A : Around} {res : Value} {H0 : Hp} (hA : A = X.A.in1) (hc : X.calm = true) (D : ZipSep2 z I O i1 i2 [i1, a] [i2, b]) (ha : a ≠ i1) (hb : b ≠ i2) (hSn : S ≠ z ∧ S ≠ I ∧ S ≠ O ∧ S ≠ i1 ∧ S ≠ i2 ∧ S ≠ a ∧ S ≠ b) (hmin : min us.length ws.length ≤ sizeLine) :
    ∀ (m i : Nat) (s : Shared) (acc : Array Value) (H : Hp) (ts : List (Addr × V × V)), min us.length ws.length - i = m → i ≤ min us.length ws.length → Lz X pins σ H0 k1 k2 a b z I O i1 i2 S us ws i s acc H ts →
    (∀ s' acc' c' H' ts', Inv X pins σ H' s' → Grow H0 H' ts' → ts'.map (·.2) = us.zip ws → Vals (ts'.map fun t => V.ref t.1) acc'.toList → s'.heap.get? S = some { cls := .type "list", dict := none, data := .seq acc' c', slots := #[] } → FpOk X pins H' S → R (.ok (.ret res)) s') →
    codeAny (model X.prog X.w) A (.builtin "list.extend.loop" ⟨[.ref S, .ref z, res], []⟩) R s := by
  subst hA
  intro m
  induction m with
  | zero =>
    intro i s acc H ts hm hi L k
    obtain ⟨c, hS⟩ := L.hS
    have hin : i = min us.length ws.length := by omega
    obtain ⟨it1, rv1, p1⟩ := sk_inv k1 L.inv L.q1
    obtain ⟨it2, rv2, p2⟩ := sk_inv k2 L.inv L.q2
    have l1 := rv1.length
    have l2 := rv2.length
    have hd : X.A.in1.in1.in1.handled = none := L.inv.ok.hd hc
    obtain ⟨out, b', ho, hz⟩ := L.zg
    obtain ⟨u0, v0, hO⟩ := L.outp
    refine codeAny_builtin F.entry_extend_loop ?_
    rw [Around.under_plainId F.plain_extend_loop _]
    show wpAny _ X.A.in1.in1 (pyNext (.ref z) >>= fun v => _) _ _ s
    refine wpAny_bind (zg_pyNext_end D (sk_draws hd k1 i1 a ha it1.toArray) (sk_draws hd k2 i2 b hb it2.toArray) hz ho L.inn hO ⟨L.at1, p1⟩ ⟨L.at2, p2⟩ (by simp; omega) (by simp; omega) (by simp; omega) fun g tk hk => ?_)
    refine wpAny_pure (k _ acc c H ts (L.inv.turnedL (t' := tk) (ch := [S, z, I, O, i1, i2]) (fun c o hb q => hk c o (fun q' => hb (by simp [q'])) (fun q' => hb (by simp [q'])) (fun q' => hb (by simp [q'])) (fun q' => hb (by simp [q'])) q) L.fp) L.grow ?_ L.vals (hk S _ hSn.1 hSn.2.2.1 hSn.2.2.2.1 hSn.2.2.2.2.1 hS) (L.fp S (by simp)))
    rw [L.zs, hin]
    exact List.take_of_length_le (by rw [List.length_zip]; exact Nat.le_refl _)
  | succ m ih =>
    intro i s acc H ts hm hi L k
    obtain ⟨c, hS⟩ := L.hS
    have hlt : i < min us.length ws.length := by omega
    obtain ⟨it1, rv1, p1⟩ := sk_inv k1 L.inv L.q1
    obtain ⟨it2, rv2, p2⟩ := sk_inv k2 L.inv L.q2
    have l1 := rv1.length
    have l2 := rv2.length
    have hd : X.A.in1.in1.in1.handled = none := L.inv.ok.hd hc
    obtain ⟨out, b', ho, hz⟩ := L.zg
    obtain ⟨u0, v0, hO⟩ := L.outp
    have hal : acc.size = i := by
      have e := L.vals.length
      have e2 := congrArg List.length L.zs
      simp only [List.length_map, List.length_take, List.length_zip] at e2
      simp only [List.length_map, Array.length_toList] at e
      have e3 : min i (min us.length ws.length) = i := Nat.min_eq_left hi
      rw [e3] at e2
      exact e.symm.trans e2
    refine codeAny_builtin F.entry_extend_loop ?_
    rw [Around.under_plainId F.plain_extend_loop _]
    show wpAny _ X.A.in1.in1 (pyNext (.ref z) >>= fun v => _) _ _ s
    refine wpAny_bind (zg_pyNext D (sk_draws hd k1 i1 a ha it1.toArray) (sk_draws hd k2 i2 b hb it2.toArray) hz ho L.inn hO ⟨L.at1, p1⟩ ⟨L.at2, p2⟩ (by simp; omega) (by simp; omega) fun u v g tk hu hv af => ?_)
    obtain ⟨x, hx, rx⟩ := vals_at rv1 hu
    obtain ⟨y, hy, ry⟩ := vals_at rv2 hv
    have gS : g.get? S = some { cls := .type "list", dict := none, data := .seq acc c, slots := #[] } := af.keep S _ hSn.1 hSn.2.2.1 hSn.2.2.2.1 hSn.2.2.2.2.1 hS
    have hSl : S < s.heap.objs.size := Heap.lt_size hS
    show wpAny _ X.A.in1.in1 (updateSeq S (·.push (.ref s.heap.objs.size)) >>= fun v => _) _ _ _
    refine wpAny_bind ?_
    refine wpAny_updateSeq gS rfl (wpAny_pure ⟨plainId_quiet F.plain_extend_loop _, ih (i + 1) _ (acc.push (.ref s.heap.objs.size)) (upd H s.heap.objs.size (.tup [x, y])) (ts ++ [(s.heap.objs.size, x, y)]) (by omega) hlt ?_ k⟩)
      (by rw [hal]; omega) (by show (acc.push (.ref s.heap.objs.size)).size ≤ sizeLine + 1; rw [Array.size_push, hal]; omega)
    have oth : ∀ b o, b ≠ S → g.get? b = some o → (g.update S (Obj.mapSeq (·.push (.ref s.heap.objs.size)))).get? b = some o := fun b o hb e => (Heap.get?_update_other _ _ (Ne.symm hb)).trans e
    have nS : s.heap.objs.size ≠ S := Nat.ne_of_gt hSl
    have new1 : ObjOk X.prog X.w (upd H s.heap.objs.size (.tup [x, y])) (g.update S (Obj.mapSeq (·.push (.ref s.heap.objs.size)))) s.heap.objs.size (.tup [x, y]) := ⟨by show 2 ≤ sizeLine; decide, [u, v], .cons rx (.cons ry .nil), ⟨_, oth _ _ nS af.new, rfl, _, rfl⟩⟩
    have fresh := L.inv.hok.fresh (Nat.le_refl s.heap.objs.size)
    have lt : ∀ c ∈ [S, z, I, O, i1, i2], c < s.heap.objs.size := fun c hcm => by
      obtain ⟨o1, e1, _⟩ := sk_live k1 L.at1
      obtain ⟨o2, e2, _⟩ := sk_live k2 L.at2
      rcases six hcm with rfl | rfl | rfl | rfl | rfl | rfl
      · exact hSl
      · exact Heap.lt_size hz
      · exact Heap.lt_size L.inn
      · exact Heap.lt_size hO
      · exact Heap.lt_size e1
      · exact Heap.lt_size e2
    refine ⟨L.inv.turnedNew (t' := tk) (ch := [S, z, I, O, i1, i2]) (fun c o hb q => oth c o (fun q' => hb (by simp [q'])) (af.keep c o (fun q' => hb (by simp [q'])) (fun q' => hb (by simp [q'])) (fun q' => hb (by simp [q'])) (fun q' => hb (by simp [q'])) q)) L.fp (Nat.le_refl _) new1,
      .snoc L.grow fresh, ?_, ?_, ⟨_, Heap.get?_update_self _ gS rfl⟩, fun c hcm => ⟨by rw [upd_ne (Nat.ne_of_lt (lt c hcm))]; exact (L.fp c hcm).1, (L.fp c hcm).2⟩, ?_, oth _ _ hSn.2.1.symm af.inn, ?_, sk_keep k1 af.s1.1 fun o q => oth _ _ hSn.2.2.2.1.symm q, sk_keep k2 af.s2.1 fun o q => oth _ _ hSn.2.2.2.2.1.symm q, sq_grow k1 fresh L.q1, sq_grow k2 fresh L.q2⟩
    · rw [List.map_append, L.zs, List.take_add_one]
      have e : (us.zip ws)[i]? = some (x, y) := by rw [List.getElem?_zip_eq_some]; exact ⟨hx, hy⟩
      rw [e]
      rfl
    · rw [List.map_append, Array.toList_push]
      exact Vals.append L.vals (.cons rfl .nil)
    · obtain ⟨o2, b2, g1, g3⟩ := af.zg
      exact ⟨o2, b2, g1, oth _ _ hSn.1.symm g3⟩
    · obtain ⟨u2, v2, g3⟩ := af.outp
      exact ⟨u2, v2, oth _ _ hSn.2.2.1.symm g3⟩
/-- a state with some of S's own changes -/
theorem Lz.list {s : Shared} {H H0 : Hp} {acc acc' : Array Value} {ts : List (Addr × V × V)} {i c : Nat} {g : Heap} (L : Lz X pins σ H0 k1 k2 a b z I O i1 i2 S us ws i s acc H ts) (hSn : S ≠ z ∧ S ≠ I ∧ S ≠ O ∧ S ≠ i1 ∧ S ≠ i2 ∧ S ≠ a ∧ S ≠ b) (k : ∀ b o, b ≠ S → s.heap.get? b = some o → g.get? b = some o)
    (hg : g.get? S = some { cls := .type "list", dict := none, data := .seq acc' c, slots := #[] }) (hv : Vals (ts.map fun t => V.ref t.1) acc'.toList) : Lz X pins σ H0 k1 k2 a b z I O i1 i2 S us ws i { s with heap := g } acc' H ts := by
  obtain ⟨out, b', ho, hz⟩ := L.zg
  obtain ⟨u0, v0, hO⟩ := L.outp
  exact ⟨L.inv.turnedL (t' := s.toks) (ch := [S, z, I, O, i1, i2]) (fun c o hb q => k c o (fun q' => hb (by simp [q'])) q) L.fp, L.grow, L.zs, hv, ⟨c, hg⟩, L.fp, ⟨out, b', ho, k _ _ hSn.1.symm hz⟩, k _ _ hSn.2.1.symm L.inn, ⟨u0, v0, k _ _ hSn.2.2.1.symm hO⟩, sk_keep k1 L.at1 fun o q => k _ _ hSn.2.2.2.1.symm q, sk_keep k2 L.at2 fun o q => k _ _ hSn.2.2.2.2.1.symm q, L.q1, L.q2⟩
/-- list.__init__(S, a zip) -/
theorem lz_init {s : Shared} {H0 : Hp} (hc : X.calm = true) (D : ZipSep2 z I O i1 i2 [i1, a] [i2, b]) (ha : a ≠ i1) (hb : b ≠ i2) (hSn : S ≠ z ∧ S ≠ I ∧ S ≠ O ∧ S ≠ i1 ∧ S ≠ i2 ∧ S ≠ a ∧ S ≠ b) (hmin : min us.length ws.length ≤ sizeLine)
    (hS0 : s.heap.get? S = some { cls := .type "list", data := .seq #[] }) (L : Lz X pins σ H0 k1 k2 a b z I O i1 i2 S us ws 0 s #[] H0 [])
    (k : ∀ s' acc' c' H' ts', Inv X pins σ H' s' → Grow H0 H' ts' → ts'.map (·.2) = us.zip ws → Vals (ts'.map fun t => V.ref t.1) acc'.toList → s'.heap.get? S = some { cls := .type "list", dict := none, data := .seq acc' c', slots := #[] } → FpOk X pins H' S → R (.ok (.ret .none)) s') :
    wpAny (model X.prog X.w) X.A.in1.in1 (Builtin.«list.__init__» ⟨[.ref S, .ref z], []⟩) (fun fin s' => match fin with | .done f => R (.ok f) s' | .again c' => c'.quiet = true ∧ codeAny (model X.prog X.w) X.A.in1 c' R s') (fun e s' => R (.error e) s') s := by
  show wpAny _ _ (do let old ← Builtin.List.listItems (.ref S); Builtin.List.listUpdate (.ref S) (fun _ => #[]); letGo old.toList.reverse; Builtin.List.listExtendWith (.ref S) (.ref z) .none) _ _ s
  refine wpAny_bind ?_
  unfold Builtin.List.listItems
  refine wpAny_bind (wpAny_seqItems hS0 rfl (wpAny_pure ?_))
  show wpAny _ _ (updateSeq S (fun _ => #[]) >>= fun _ => letGo (#[] : Array Value).toList.reverse >>= fun _ => Builtin.List.listExtendWith (.ref S) (.ref z) .none) _ _ s
  refine wpAny_bind (wpAny_updateSeq hS0 rfl ?_)
  have g1 := Heap.get?_update_self (Obj.mapSeq (fun _ => (#[] : Array Value))) hS0 rfl
  have L1 := L.list hSn (g := s.heap.update S (Obj.mapSeq (fun _ => (#[] : Array Value)))) (fun b o hb e => (Heap.get?_update_other _ _ (Ne.symm hb)).trans e) g1 L.vals
  refine wpAny_bind (wpAny_letGo ?_)
  generalize he1 : s.heap.update S (Obj.mapSeq (fun _ => (#[] : Array Value))) = h1 at g1 L1 ⊢
  obtain ⟨out, b', ho, hz⟩ := L1.zg
  have hT : ({ s with heap := h1 } : Shared).TypeIs (.ref z) "zip" := ⟨_, hz, rfl⟩
  unfold Builtin.List.listExtendWith
  refine wpAny_bind (wpAny_typeOf hT ?_)
  have e1 : Builtin.List.listSameRef (.ref S) (.ref z) = false := by simp [Builtin.List.listSameRef, hSn.1]
  have e2 : (Value.type "zip" == Value.type "list") = false := by decide
  have e3 : (Value.type "zip" == Value.type "tuple") = false := by decide
  simp only [e1, e2, e3, Bool.or_false, Bool.false_eq_true, if_false]
  refine wpAny_bind (wpAny_pyIter_slot hT F.slot_zip_iter (wpAny_call_entry F.slot_zip_iter hT F.entry_zip_iter ?_ (F.args_zip_iter_1 _)))
  show wpAny _ _ (ret (.ref z)) _ _ _
  refine wpAny_pure ⟨_, rfl, "zip", _, hT, F.slot_zip_next.lookup, ?_⟩
  refine wpAny_bind (wpAny_holding ?_)
  unfold Builtin.List.listLengthHint
  refine wpAny_bind (wpAny_specialOf hT zip_nolen ?_)
  show wpAny _ _ (specialOf (Value.ref z) (Str.ofString "__length_hint__") >>= fun v => _) _ _ _
  refine wpAny_bind (wpAny_specialOf hT zip_nohint ?_)
  refine wpAny_pure ?_
  show wpAny _ _ (rule "list.extend.makes-room" >>= fun _ => Builtin.List.listTouch (.ref S) >>= fun _ => again (.builtin "list.extend.loop" ⟨[.ref S, .ref z, .none], []⟩)) _ _ _
  refine wpAny_bind (wpAny_rule ?_)
  refine wpAny_bind ?_
  show wpAny _ _ (updateSeq S (·.push .none) >>= fun _ => updateSeq S (·.pop)) _ _ _
  refine wpAny_bind (wpAny_updateSeq (s := { s with heap := h1 }) g1 rfl ?_)
  have g2 := Heap.get?_update_self (Obj.mapSeq (·.push Value.none)) g1 rfl
  refine wpAny_updateSeq (hz := by seq_fits) g2 rfl ?_
  have g3 := Heap.get?_update_self (Obj.mapSeq (·.pop)) g2 rfl
  have L3 := L1.list hSn (g := (h1.update S (Obj.mapSeq (·.push Value.none))).update S (Obj.mapSeq (·.pop))) (fun b o hb e => (Heap.get?_update_other _ _ (Ne.symm hb)).trans ((Heap.get?_update_other _ _ (Ne.symm hb)).trans e)) g3 L.vals
  exact wpAny_pure ⟨plainId_quiet F.plain_extend_loop _, lz_loop rfl hc D ha hb hSn hmin _ 0 _ _ _ _ rfl (Nat.zero_le _) L3 k⟩
end
def tLZ (K : PySem.W.Frag) (ta : TA) : TE := fun σ H Q => ta σ H fun vs H1 => ∃ (k1 k2 : Sk) (a b : Addr) (us ws : List V), vs = [.ref a, .ref b] ∧ k1.Sq K H1 a us ∧ k2.Sq K H1 b ws ∧
  ∀ H2 ts S, Grow H1 H2 ts → ts.map (·.2) = us.zip ws → H2 S = none → Q (.ref S) (upd H2 S (.lst (ts.map fun t => V.ref t.1)))
theorem pe_lz {X : Cx} {e e2 : Expr} {ta : TA} {p p2 pos pos2 : Pos} (hc : X.calm = true) (hg : Gl X "zip") (hm : X.mg "zip" = none) (hge : Gl X "list") (hme : X.mg "list" = none) (ha : PA X [e, e2] ta)
    (hs : starEach [e, e2] X.env = (false, eval e X.env) :: starEach [e2] X.env := by rfl) (hpl : (backTo pos (starEach [e2] X.env)).any (·.1) = false := by rfl)
    (hs2 : starEach [.Call (.Name "zip" p) [e, e2] [] pos] X.env = [(false, eval (.Call (.Name "zip" p) [e, e2] [] pos) X.env)] := by rfl) :
    PE X (.Call (.Name "list" p2) [.Call (.Name "zip" p) [e, e2] [] pos] [] pos2) (tLZ X.K ta) := by
  refine ⟨fun pins s σ H Q I h => ?_⟩
  refine Call_ (ld_blt I hge hme boot_list (PyProof.Rows.callWith_type1 ?_ hs2 rfl))
  rw [hs2]
  refine Calls.spliced_cons ?_
  refine Call_ (ld_blt I hg hm PyProof.Rows.boot_zip (PyProof.Rows.callWith_type1 (thn (ha.run pos pins s σ H _ I h) fun us s1 ⟨vs, H1, I1, r1, q1⟩ => ?_) hs hpl))
  obtain ⟨k1, k2, a, b, us, ws, ex, g1, g2, q⟩ := q1
  subst ex
  cases r1 with
  | cons r rr =>
    cases rr with
    | cons r' rr =>
      cases rr
      cases r
      cases r'
      obtain ⟨it1, rv1, p1⟩ := sk_inv k1 I1 g1
      obtain ⟨it2, rv2, p2⟩ := sk_inv k2 I1 g2
      have z1 := sk_size k1 I1 g1
      have la := sk_lt k1 p1
      have lb := sk_lt k2 p2
      refine zip_begins2 (sk_begins k1 a it1.toArray) (sk_begins k2 b it2.toArray) p1 p2 fun h' hz hI hO h1 h2 hsz hk => ?_
      refine Calls.spliced_nil ?_
      have D := zip_sep2 (N := s1.heap.objs.size) (fp1 := [a]) (fp2 := [b]) (fun c hc => by rw [List.mem_singleton.mp hc]; exact la) (fun c hc => by rw [List.mem_singleton.mp hc]; exact lb)
      have nS : ∀ c : Nat, c < s1.heap.objs.size + 5 → s1.heap.objs.size + 5 ≠ c := fun c h => Nat.ne_of_gt h
      refine callType_codes (s := { s1 with heap := h' }) (Q₁ := fun obj s₁ => obj = .ref (s1.heap.objs.size + 5) ∧ s₁ = { s1 with heap := h'.push { cls := .type "list", data := .seq #[] } }) F.called_list (F.typeCall_list_1 _) F.entry_list_init
        (code_list_new _ (by exact ⟨by rw [hsz], rfl⟩)) fun obj s₁ hh => ?_
      obtain ⟨rfl, rfl⟩ := hh
      have gS : (h'.push { cls := .type "list", data := .seq #[] }).get? (s1.heap.objs.size + 5) = some { cls := .type "list", data := .seq #[] } := by
        rw [← hsz]
        exact Heap.get?_push_size _ rfl
      have up : ∀ c o, h'.get? c = some o → (h'.push { cls := .type "list", data := .seq #[] }).get? c = some o := fun c o x => Heap.get?_push_of_some _ x
      have L : Lz X pins σ H1 k1 k2 a b (s1.heap.objs.size + 4) (s1.heap.objs.size + 2) (s1.heap.objs.size + 3) s1.heap.objs.size (s1.heap.objs.size + 1) (s1.heap.objs.size + 5) us ws 0 { s1 with heap := h'.push { cls := .type "list", data := .seq #[] } } #[] H1 [] :=
        ⟨I1.kept (t' := s1.toks) fun c o x => up c o (hk c o x), .nil, rfl, .nil, ⟨_, gS⟩, fun c hc => I1.fpOk (sixN hc) (I1.hok.fresh (sixN hc)), ⟨.none, false, .inl rfl, up _ _ hz⟩, up _ _ hI, ⟨_, _, up _ _ hO⟩, sk_keep k1 (sk_at0 k1 h1) fun o q => up _ _ q, sk_keep k2 (sk_at0 k2 h2) fun o q => up _ _ q, g1, g2⟩
      refine ⟨⟨_, gS, rfl⟩, F.args_list_init_2 _ _, lz_init hc D (Nat.ne_of_lt la) (Nat.ne_of_lt (Nat.lt_succ_of_lt lb)) ⟨nS _ (by omega), nS _ (by omega), nS _ (by omega), nS _ (by omega), nS _ (by omega), nS a (Nat.lt_of_lt_of_le la (Nat.le_add_right _ _)), nS b (Nat.lt_of_lt_of_le lb (Nat.le_add_right _ _))⟩ (Nat.le_trans (Nat.min_le_left _ _) z1) gS L fun s' acc' c' H' ts' j1 j2 j3 j4 j5 j6 => ?_⟩
      have hlen : (ts'.map fun t => V.ref t.1).length ≤ sizeLine := by
        have e := congrArg List.length j3
        simp only [List.length_map, List.length_zip] at e
        rw [List.length_map, e]
        exact Nat.le_trans (Nat.min_le_left _ _) z1
      refine ⟨rfl, .ref (s1.heap.objs.size + 5), upd H' (s1.heap.objs.size + 5) (.lst (ts'.map fun t => V.ref t.1)), inv_track j1 j6 ⟨hlen, acc'.toList, c', j4, ?_⟩, rfl, q H' ts' _ j2 j3 j6.1⟩
      rw [Array.toArray_toList]
      exact j5
end Gz
namespace Dn
open PySem PySem.Spec PyProof.Rows L2 Gz
section
variable {X : Cx} {p : Pm} {ρ ρ1 : Rho} {a b : Expr} {pos pos2 : Pos} {xs ys : List PyData} {K : PySem.W.Frag} {T : List (Addr × Str)} {φ : Nat → Option V} {w : Addr → Option Nat} {B H H' : Hp} {σ : L2.St} {us ws : List V}
theorem grow_rl {H2 : Hp} {ts : List (Addr × V × V)} (F : Rl K T φ B w H σ ρ) (g : Grow H H2 ts) : ∀ zs : List (PyData × PyData), DpAll K B (ts.map (·.2.1)) (zs.map (·.1)) → DpAll K B (ts.map (·.2.2)) (zs.map (·.2)) →
    ∃ B2, Stp T w B H w B2 H2 ∧ Rl K T φ B2 w H2 σ ρ ∧ DpAll K B2 (ts.map fun t => V.ref t.1) (zs.map fun z => .tuple [z.1, z.2]) := by
  induction g with
  | nil =>
    intro zs d1 d2
    cases zs with
    | nil => exact ⟨B, Stp.refl, F, .nil⟩
    | cons z r => cases d1
  | @snoc H1 ts q x y g hq ih =>
    intro zs d1 d2
    have hl := dpa_len d1
    rw [List.length_map, List.length_map, List.length_append] at hl
    obtain ⟨zs0, z, rfl⟩ : ∃ zs0 z, zs = zs0 ++ [z] := by
      rcases List.eq_nil_or_concat zs with rfl | ⟨zs0, z, rfl⟩
      · simp at hl
      · exact ⟨zs0, z, List.concat_eq_append ..⟩
    have cut : ∀ {vs : List V} {v : V} {as : List PyData} {x : PyData}, vs.length = as.length → DpAll K B (vs ++ [v]) (as ++ [x]) → DpAll K B vs as ∧ Dp K B v x := by
      intro vs v as x e d
      have h1 := dpa_take vs.length d
      have h2 := dpa_drop vs.length d
      rw [List.take_left, e, List.take_left] at h1
      rw [List.drop_left, e, List.drop_left] at h2
      cases h2 with
      | cons h _ => exact ⟨h1, h⟩
    have hz : ts.length = zs0.length := by
      rw [List.length_append] at hl
      simp at hl
      exact hl
    rw [List.map_append, List.map_append] at d1 d2
    obtain ⟨e1, f1⟩ := cut (by rw [List.length_map, List.length_map, hz]) d1
    obtain ⟨e2, f2⟩ := cut (by rw [List.length_map, List.length_map, hz]) d2
    obtain ⟨B2, s2, F2, d⟩ := ih zs0 e1 e2
    obtain ⟨s3, F3, i3⟩ := new_tup (T := T) F2 hq (.cons (dp_mono s2.bb f1) (.cons (dp_mono s2.bb f2) .nil))
    refine ⟨_, s2.trans s3, F3, ?_⟩
    rw [List.map_append, List.map_append]
    exact dpa_app (dpa_mono s3.bb d) (.cons i3 .nil)
theorem zipD_zip : zipD xs ys = (xs.zip ys).map fun z => .tuple [z.1, z.2] := by
  unfold zipD
  rw [List.zip, List.map_zipWith]
theorem dpa_zip1 : ∀ {us ws : List V} {xs ys : List PyData}, DpAll K B us xs → DpAll K B ws ys → DpAll K B ((us.zip ws).map (·.1)) ((xs.zip ys).map (·.1)) ∧ DpAll K B ((us.zip ws).map (·.2)) ((xs.zip ys).map (·.2))
  | _, _, _, _, .nil, _ => ⟨.nil, .nil⟩
  | _, _, _, _, .cons _ _, .nil => ⟨.nil, .nil⟩
  | _, _, _, _, .cons h r, .cons h2 r2 => let ⟨q1, q2⟩ := dpa_zip1 r r2; ⟨.cons h q1, .cons h2 q2⟩
theorem rv_lz (k1 k2 : Sk) {pp pp2 : Pos} (hc : X.calm = true) (hm : X.mg "zip" = none) (hme : X.mg "list" = none) (h : RA X p [a, b] ρ [.da (k1.lp xs), .da (k2.lp ys)] ρ1) (hg : Gl X "zip" := by rfl) (hge : Gl X "list" := by rfl)
    (hs : starEach [a, b] X.env = (false, eval a X.env) :: starEach [b] X.env := by rfl) (hpl : (backTo pos (starEach [b] X.env)).any (·.1) = false := by rfl)
    (hs2 : starEach [.Call (.Name "zip" pp) [a, b] [] pos] X.env = [(false, eval (.Call (.Name "zip" pp) [a, b] [] pos) X.env)] := by rfl) :
    RV X p (.Call (.Name "list" pp2) [.Call (.Name "zip" pp) [a, b] [] pos] [] pos2) ρ (.li (zipD xs ys)) ρ1 := by
  obtain ⟨t, pt, et⟩ := h
  refine ⟨_, pe_lz hc hg hm hge hme pt hs hpl hs2, fun σ H B w F Q k0 => et σ H B w F _ fun vs H' B' w' s F' i => ?_⟩
  obtain ⟨v, u, rfl, i1, i2⟩ := itvs2 i
  obtain ⟨l, us, rfl, sq1, d1⟩ := dp_sk k1 i1
  obtain ⟨m, ws, rfl, sq2, d2⟩ := dp_sk k2 i2
  refine ⟨k1, k2, l, m, us, ws, rfl, same_sk k1 F'.ext sq1, same_sk k2 F'.ext sq2, fun H2 ts S g e hS => ?_⟩
  obtain ⟨z1, z2⟩ := dpa_zip1 d1 d2
  have m1 : ts.map (·.2.1) = (us.zip ws).map (·.1) := by rw [← e, List.map_map]; rfl
  have m2 : ts.map (·.2.2) = (us.zip ws).map (·.2) := by rw [← e, List.map_map]; rfl
  obtain ⟨B2, s2, F2, d⟩ := grow_rl F' g (xs.zip ys) (by rw [m1]; exact z1) (by rw [m2]; exact z2)
  rw [← zipD_zip] at d
  obtain ⟨s3, F3, i3⟩ := new_lst (T := p.T) F2 hS d
  refine k0 _ _ _ _ ((s.trans s2).trans s3) F3 ?_
  obtain ⟨q, vs, e1, e2, e3, e4, e5, e6⟩ := i3
  refine ⟨q, vs, e1, fun hL => e2 ?_, e3, e4, e5, e6⟩
  exact (s.trans s2).th q hL
end
end Dn

set_option Elab.async false
set_option linter.all false
set_option maxRecDepth 100000
set_option maxHeartbeats 1000000
/-! sums of tuples, most and least of lists, membership, lists and tuples times numbers -/
namespace Dn
open PySem PySem.Spec PyProof.Rows L2 Gz
theorem preSum_take {ns : List Int} : ∀ n, n ≤ ns.length → preSum (fun i => ns.getD i 0) n = (ns.take n).sum
  | 0, _ => rfl
  | n + 1, h => by
    have e : (ns.take (n + 1)).sum = (ns.take n).sum + ns.getD n 0 := by
      rw [List.take_add_one, List.getD_eq_getElem?_getD, List.getElem?_eq_getElem (by omega), List.sum_append]
      simp
    rw [e, ← preSum_take n (by omega)]
    rfl
section
variable {prog : Program} {w : World} {A : Around} {E : Value → Shared → Prop} {s : Shared} {a : Addr} {its : List Value} {ns : List Int} {Q : Value → Shared → Prop}
theorem ints_at {v : Value} : ∀ {its : List Value} {ns : List Int} {i : Nat}, Vals (ns.map V.int) its → its[i]? = some v → ∃ t, v = .int (ns.getD i 0) t
  | [], _, _, _, h => by simp at h
  | _ :: _, [], _, r, _ => by cases r
  | x :: its, n :: ns, 0, r, h => by
    cases r with
    | cons r1 r2 =>
      obtain ⟨t, rfl⟩ := r1
      simp at h
      exact ⟨t, by rw [← h]; rfl⟩
  | x :: its, n :: ns, i + 1, r, h => by
    cases r with
    | cons r1 r2 =>
      obtain ⟨t, e⟩ := ints_at (i := i) (v := v) r2 (by simpa using h)
      exact ⟨t, by simpa using e⟩
theorem sumT_raw (hh : A.handled = none) (hl : s.heap.IsTuple a its.toArray) (r : Vals (ns.map V.int) its) (k : ∀ h' tk t', (∀ b o, s.heap.get? b = some o → h'.get? b = some o) → Q (.int ns.sum t') { s with heap := h', toks := tk }) :
    wpAny (model prog w) A (call (.builtin "sum") [.ref a]) Q E s := by
  refine call_sum_walkG (wpAny_pyIter_tuple hl ?_)
  have hlen := r.length
  rw [List.length_map] at hlen
  have lt : a < s.heap.objs.size := by
    obtain ⟨o, e, _⟩ := id hl
    exact Heap.lt_size e
  refine ⟨s.heap.objs.size, [s.heap.objs.size, a], [s.heap.objs.size], its.toArray.size, fun i v => its.toArray[i]? = some v, _, fun i => ns.getD i 0, rfl, Walks.tuple (A := A.in1) hh s.heap.objs.size a (Nat.ne_of_lt lt) its.toArray, ⟨?_, ?_⟩, ?_, fun i v hv => ints_at r (by simpa using hv), fun h' tk t' kp => ?_⟩
  · exact ⟨_, Heap.get?_push_size _ rfl, rfl, rfl⟩
  · exact Heap.IsTuple.at hl fun o e => Heap.get?_push_of_some _ e
  · intro b hb
    show b < (s.heap.push _).objs.size
    rw [Heap.size_push]
    simp only [List.mem_cons, List.not_mem_nil, or_false] at hb
    rcases hb with rfl | rfl
    · exact Nat.lt_succ_self _
    · exact Nat.lt_succ_of_lt lt
  · have e : preSum (fun i => ns.getD i 0) its.toArray.size = ns.sum := by
      rw [preSum_take _ (by simp; omega), List.take_of_length_le (by simp; omega)]
    rw [e]
    exact k h' tk t' fun b o q => kp b o (fun hb => by
      rw [List.mem_singleton.mp hb] at q
      exact absurd (Heap.lt_size q) (Nat.lt_irrefl _)) (Heap.get?_push_of_some _ q)
end
section
variable {X : Cx} {p : Pm} {ρ : Rho} {r ra rb : Rs} {xs ys : List PyData} {pos : Pos}
def rSumT (K : PySem.W.Frag) : List V → Hp → VK → Prop := fun vs H Q => ∃ (a : Addr) (ns : List Int), vs = [V.ref a] ∧ SqT K H a (ns.map V.int) ∧ Q (.int ns.sum) H
theorem cr_sumT (hc : X.calm = true) : CallR X (.builtin "sum") (rSumT X.K) := by
  intro pins s σ H vs us Q I r h
  obtain ⟨a, ns, rfl, hs, q⟩ := h
  obtain ⟨its, rv, hl, _⟩ := I.tuple hs
  rw [Vals.ref1 r]
  exact sumT_raw (I.ok.hd hc) hl rv fun h' tk t' hk => ⟨.int _, H, I.kept hk, ⟨_, rfl⟩, q⟩
theorem cv_sumT {ns : List Int} (hc : X.calm = true) : CalV X p (.builtin "sum") [.da (.tuple (ns.map .int))] ρ (.da (.int ns.sum)) :=
  cal_now (cr_sumT hc) fun σ H B w vs H0 F i => by
    obtain ⟨v, rfl, i1⟩ := itvs1 i
    obtain ⟨l, us, rfl, sq, d⟩ := dp_tup i1
    obtain rfl := dpa_ints d
    exact ⟨_, .int _, fun Q q => ⟨l, ns, rfl, same_t F.ext sq, q⟩⟩
theorem cv_maxL {ns : List Int} {m : Int} (hc : X.calm = true) (h : Vw ρ r false (ns.map .int)) (hm : m ∈ ns) (hb : ∀ y ∈ ns, y ≤ m) : CalV X p (.builtin "max") [r] ρ (.da (.int m)) :=
  cal_now (cr_max hc) fun σ H B w vs H0 F i => by
    obtain ⟨v, rfl, i1⟩ := itvs1 i
    obtain ⟨l, us, rfl, sq, d⟩ := vw_ok F i1 h
    obtain rfl := dpa_ints d
    exact ⟨_, .int _, fun Q q => ⟨l, ns, rfl, sq, List.length_pos_of_mem hm, fun z h1 h2 => by rw [Int.le_antisymm (hb z h1) (h2 m hm)]; exact q⟩⟩
theorem cv_minL {ns : List Int} {m : Int} (hc : X.calm = true) (h : Vw ρ r false (ns.map .int)) (hm : m ∈ ns) (hb : ∀ y ∈ ns, m ≤ y) : CalV X p (.builtin "min") [r] ρ (.da (.int m)) :=
  cal_now (cr_min hc) fun σ H B w vs H0 F i => by
    obtain ⟨v, rfl, i1⟩ := itvs1 i
    obtain ⟨l, us, rfl, sq, d⟩ := vw_ok F i1 h
    obtain rfl := dpa_ints d
    exact ⟨_, .int _, fun Q q => ⟨l, ns, rfl, sq, List.length_pos_of_mem hm, fun z h1 h2 => by rw [Int.le_antisymm (h2 m hm) (hb z h1)]; exact q⟩⟩
end
end Dn

set_option Elab.async false
set_option linter.all false
set_option maxRecDepth 100000
set_option maxHeartbeats 1000000
/-! lists and tuples times numbers; membership -/
namespace Gz
open PySem PySem.Spec PyProof.Rows L2
open Sem (wp)
/-- a tuple, once: itself -/
theorem tup_once (l : Addr) (items : Array Value) (n : Nat) (u : Tok) (dd : Option Addr) (sl : Array (Option Value)) : Meets (Builtin.«tuple.__mul__» ⟨[.ref l, .int 1 u], []⟩) (fun _ R s => s.heap.get? l = some { cls := .type "tuple", dict := dd, data := .seq items n, slots := sl } ∧ R (.ok (.ret (Value.ref l))) s) :=
  .of_wp fun prog w A R s h => by
    obtain ⟨hp, g, d, tk, os⟩ := s
    obtain ⟨hl, h⟩ := h
    have f1 := AutoSeq1.idx_int
    have c1 : (items.isEmpty || ((1 : Int) == 1)) = true := by simp
    wp_walk using wpAny_loadPart' hl
    exact ⟨_, rfl, h⟩
def rOnce (K : PySem.W.Frag) : R2 := fun x y H Q => ∃ (l : Addr) (xs : List V), x = .ref l ∧ y = .int 1 ∧ SqT K H l xs ∧ Q (.ref l) H
theorem op_once {X : Cx} : OpR X (binaryOp .Mult) (rOnce X.K) := by
  intro pins s σ H x y v u Q I rx ry h
  obtain ⟨l, xs, rfl, rfl, hT, q⟩ := h
  cases rx
  obtain ⟨t, rfl⟩ := ry
  obtain ⟨its, r, ⟨⟨cls, dd, data, sl⟩, ho, hc, n, hd⟩, hs⟩ := I.tuple hT
  simp only at hc hd
  subst hc hd
  exact wpAny_binaryOp_repeat_ref (T := "tuple") (U := "int") (by decide) ⟨_, ho, rfl⟩ (fun s' => typeIs_int s' 1 t) noFill_tuple_mul F.fills_int_mul F.slot_int_rmul repeat_tuple F.slot_int_index.lookup
    (call_meets F.slot_int_rmul (typeIs_int s 1 t) F.entry_int_rmul (F.args_int_rmul_2 _ _) (int_rmul_tuple 1 t l its.toArray n dd sl) ⟨ho, rfl, ⟨_, ho, rfl⟩, call_meets F.slot_tuple_mul ⟨_, ho, rfl⟩ F.entry_tuple_mul (F.args_tuple_mul_2 _ _) (tup_once l its.toArray n t dd sl) ⟨ho, ⟨.ref l, H, I, rfl, q⟩⟩⟩)
end Gz
namespace Dn
open PySem PySem.Spec PyProof.Rows L2 Gz
section
variable {X : Cx} {p : Pm} {ρ : Rho} {r ra rb : Rs} {xs ys : List PyData} {K : PySem.W.Frag} {B : Hp}
theorem dpa_rep {vs : List V} (d : DpAll K B vs xs) : ∀ n : Nat, DpAll K B (List.replicate n vs).flatten (List.replicate n xs).flatten
  | 0 => .nil
  | n + 1 => by
    rw [List.replicate_succ, List.replicate_succ, List.flatten_cons, List.flatten_cons]
    exact dpa_app d (dpa_rep d n)
/-- a new list, so many times -/
theorem ov_rep {k : Int} (h0 : 0 ≤ k) (hk : k ≤ 1000) (hl : xs.length ≤ 1000) : OpV X p (binaryOp .Mult) (.li xs) (.da (.int k)) ρ (.li (List.replicate k.toNat xs).flatten) :=
  ⟨_, op_rep, fun σ H B w x y H0 F s ia ib Q kk => by
    obtain ⟨l, vs, rfl, _, _, _, h, d⟩ := ia
    refine ⟨l, k, vs, rfl, dp_int ib, h, by omega, by omega, ?_, fun q hq => ?_⟩
    · rw [dpa_len d, sizeLine_eq]
      have a1 : xs.length * k.toNat ≤ 1000 * 1000 := Nat.mul_le_mul hl (by omega)
      omega
    · obtain ⟨s4, F4, i4⟩ := new_lst (T := p.T) F hq (dpa_rep d k.toNat)
      exact kk _ _ _ _ s4 F4 i4⟩
/-- a tuple, two times and more -/
theorem ov_repT {k : Int} (h0 : xs ≠ []) (h2 : 2 ≤ k) (hk : k ≤ 1000) (hl : xs.length ≤ 1000) : OpV X p (binaryOp .Mult) (.da (.tuple xs)) (.da (.int k)) ρ (.da (.tuple (List.replicate k.toNat xs).flatten)) :=
  ⟨_, op_repT, fun σ H B w x y H0 F s ia ib Q kk => by
    obtain ⟨l, us, rfl, sq, d⟩ := dp_tup ia
    have e := dpa_len d
    refine ⟨l, k, us, rfl, dp_int ib, same_t F.ext sq, fun z => ?_, h2, hk, by rw [e]; exact hl, fun q hq => ?_⟩
    · rw [z] at e
      exact h0 (List.eq_nil_of_length_eq_zero e.symm)
    · obtain ⟨s4, F4, i4⟩ := new_tup (T := p.T) F hq (dpa_rep d k.toNat)
      exact kk _ _ _ _ s4 F4 i4⟩
/-- a tuple, once and more -/
theorem ov_once : OpV X p (binaryOp .Mult) (.da (.tuple xs)) (.da (.int 1)) ρ (.da (.tuple xs)) :=
  ⟨_, op_once, fun σ H B w x y H0 F s ia ib Q kk => by
    obtain ⟨l, us, rfl, sq, d⟩ := dp_tup ia
    exact ⟨l, us, rfl, dp_int ib, same_t F.ext sq, kk _ _ _ _ Stp.refl F ia⟩⟩
theorem ov_mulT {k : Int} (h0 : xs ≠ []) (h1 : 1 ≤ k) (hk : k ≤ 1000) (hl : xs.length ≤ 1000) : OpV X p (binaryOp .Mult) (.da (.tuple xs)) (.da (.int k)) ρ (.da (.tuple (List.replicate k.toNat xs).flatten)) := by
  by_cases h : k = 1
  · subst h
    have e : (List.replicate (1 : Int).toNat xs).flatten = xs := by simp
    rw [e]
    exact ov_once
  · exact ov_repT h0 (by omega) hk hl
/-- membership in a list or tuple of data -/
theorem ov_in {d : PyData} {ds : List PyData} (hu : X.A.units + 65 < cLine) (ha : Dv ρ ra d) (hb : Dv ρ rb (.list ds)) (sd : SeqAt.shaped d = true) (ss : SeqAt.shaped (.list ds) = true) : OpV X p (compareOp .In) ra rb ρ (.da (.bool (ds.any fun z => PyData.eqv z d))) :=
  opv_now (op_inD hu) fun σ H B w x y H0 F s ia ib => ⟨.bl _, .bl _, fun Q q => ⟨d, ds, dv_ok F ia ha, dv_ok F ib hb, sd, ss, q⟩⟩
theorem ov_notIn {d : PyData} {ds : List PyData} (hu : X.A.units + 65 < cLine) (ha : Dv ρ ra d) (hb : Dv ρ rb (.list ds)) (sd : SeqAt.shaped d = true) (ss : SeqAt.shaped (.list ds) = true) : OpV X p (compareOp .NotIn) ra rb ρ (.da (.bool (!ds.any fun z => PyData.eqv z d))) :=
  opv_now (op_notInD hu) fun σ H B w x y H0 F s ia ib => ⟨.bl _, .bl _, fun Q q => ⟨d, ds, dv_ok F ia ha, dv_ok F ib hb, sd, ss, q⟩⟩
end
end Dn

set_option Elab.async false
set_option linter.all false
set_option maxRecDepth 100000
set_option maxHeartbeats 1000000
/-! items of lists changed in place, ranges with a step -/
namespace Dn
open PySem PySem.Spec PyProof.Rows L2 Gz
section
variable {X : Cx} {p : Pm} {er : Er} {ρ ρ1 ρ2 ρ3 ρ4 : Rho} {a b e tg : Expr} {xs : List PyData} {pos tpos : Pos} {i j : Nat}
theorem get_list0 : PGet X (fun x y H Q => ∃ (l : Addr) (us : List V) (j : Nat) (v : V), x = .ref l ∧ y = .int (j : Int) ∧ H l = some (.lst us) ∧ us[j]? = some v ∧ us.length ≤ 1000000 ∧ Q v H) := by
  intro pins s σ H x y v u Q I rx ry h
  obtain ⟨l, us, j, z, rfl, rfl, hq, he, hz, q⟩ := h
  cases rx
  obtain ⟨t, rfl⟩ := ry
  obtain ⟨its, r, pl, _⟩ := I.list (show SqL X.K H l us from .inl (.inl hq))
  obtain ⟨w, ew, rw'⟩ := r.get he
  have hj : j < us.length := (List.getElem?_eq_some_iff.mp he).1
  exact wpAny_getItem_list pl.isList (by omega) (by omega) (by simpa using ew) ⟨z, H, I, rw', q⟩
/-- o[k] += e, o a slot's list of ints -/
theorem rs_augItem {m v : Int} (ho : RV X p a ρ (.sl i) ρ1) (hi : RV X p b ρ1 (.da (.int (j : Int))) ρ2) (hl : ρ2[i]? = some (oo xs)) (hx : xs[j]? = some (.int m)) (hz : xs.length ≤ 100000) (he : RV X p e ρ2 (.da (.int v)) ρ3) (hl3 : ρ3[i]? = some (oo xs))
    (ha : ∀ ov iv new, augStore b ov iv new = (do holding [new, ov, iv] (setItem ov iv new); release [new, ov, iv] []; pure .next) := by intros; rfl)
    (hE : ρ4 = ρ3.set i (oo (xs.set j (.int (m + v)))) := by rfl) : RS X p er (.AugAssign (.Subscript a b tpos) .Add e pos) ρ (.nx ρ4) := by
  subst hE
  obtain ⟨te, pe, ee⟩ := he
  obtain ⟨ta, pa, ea⟩ := ho
  obtain ⟨tb, pb, eb⟩ := hi
  refine ⟨_, ps_augS pa pb get_list0 pe ip_add set_list ha, fun σ H B w F D k0 => ea σ H B w F _ fun o H2 B2 w2 s2 F2 i2 => eb σ H2 B2 w2 F2 _ fun ki H3 B3 w3 s3 F3 i3 => ?_⟩
  obtain ⟨l, us, h1, h2, h3, h4, h5⟩ := F3.own i xs hl
  have i2' : σ[i]? = some (some o) := i2
  rw [h1] at i2'
  obtain rfl : V.ref l = o := Option.some.inj (Option.some.inj i2')
  obtain ⟨z, hz1, hz2⟩ := dpa_get h5 hx
  have hlen := dpa_len h5
  have hj : j < xs.length := (List.getElem?_eq_some_iff.mp hx).1
  refine ⟨l, us, j, z, rfl, dp_int i3, h4, hz1, by omega, ee σ H3 B3 w3 F3 _ fun y H4 B4 w4 s4 F4 i4 => ⟨m, v, dp_int hz2, dp_int i4, ?_⟩⟩
  obtain ⟨l', us', g1, g2, g3, g4, g5⟩ := F4.own i xs hl3
  rw [h1] at g1
  obtain rfl : l = l' := V.ref.inj (Option.some.inj (Option.some.inj g1))
  obtain ⟨s5, F5⟩ := rl_mut F4 hl3 h1 (dpa_set j g5 (.int (m + v)))
  refine ⟨l, us', (j : Int), j, rfl, dp_int i3, g4, ?_, k0 _ _ _ _ (((s2.trans s3).trans s4).trans s5) F5⟩
  unfold ixN
  rw [dpa_len g5, if_pos (by omega), if_pos (by omega)]
  simp
/-- i, i - 1, .. : n of them -/
def rngN (i : Int) (n : Nat) : List PyData := (List.range n).map fun (k : Nat) => PyData.int (i - (k : Int))
theorem rngN_len {k : Int} {n : Nat} : (rngN k n).length = n := by
  unfold rngN
  rw [List.length_map, List.length_range]
theorem rngN_get {k : Int} {n i : Nat} (h : i < n) : (rngN k n)[i]? = some (.int (k - (i : Int))) := by
  unfold rngN
  rw [List.getElem?_map, List.getElem?_range h]
  rfl
theorem iv_rangeN {c : Expr} {pp : Pos} {k m : Int} (hm : X.mg "range" = none) (h : RA X p [a, b, c] ρ [.da (.int k), .da (.int m), .da (.int (-1))] ρ1) (h1 : -(2 ^ 62) ≤ k) (h2 : k < 2 ^ 62) (h3 : -(2 ^ 62) ≤ m) (h4 : m < 2 ^ 62) (hg : Gl X "range" := by rfl)
    (hs : starEach [a, b, c] X.env = (false, eval a X.env) :: starEach [b, c] X.env := by rfl) (hpl : (backTo pos (starEach [b, c] X.env)).any (·.1) = false := by rfl) : IV X p tg (.Call (.Name "range" pp) [a, b, c] [] pos) ρ (rngN k (k - m).toNat) ρ1 := by
  obtain ⟨t, pt, et⟩ := h
  refine ⟨_, pi_range3 hg hm pt hs hpl, fun σ H B w F R k0 => et σ H B w F _ fun vs H' B' w' s F' i => ?_⟩
  cases i with
  | cons i1 i =>
    cases i with
    | cons i2 i =>
      cases i with
      | cons i3 i =>
        cases i
        refine ⟨k, m, -1, (k - m).toNat, by rw [dp_int i1, dp_int i2, dp_int i3], RgC.neg h1 h2 h3 h4, k0 _ H' B' w' s F' ⟨_, _, by rw [rngN_len]; exact walk_rangeC, fun _ _ _ _ => trivial, fun i H2 B2 v H3 s1 s2 hi y => ?_⟩⟩
        rw [rngN_len] at hi
        obtain ⟨e, rfl⟩ := y
        exact ⟨_, rngN_get hi, .inl ⟨e, by show Dp X.K B2 (V.int (k + (i : Nat) * (-1 : Int))) _; rw [show k + (i : Nat) * (-1 : Int) = k - (i : Int) by omega]; exact .int _⟩⟩
end
end Dn

set_option Elab.async false
set_option linter.all false
set_option maxRecDepth 100000
set_option maxHeartbeats 1000000
/-! targets that change lists: a[i], b[j], c = .. -/
namespace Dn
open PySem PySem.Spec PyProof.Rows L2 Gz
/-- a target that may change a list of ours -/
def GW (X : Cx) (p : Pm) (tg : Expr) (x : PyData) (ρ ρ' : Rho) : Prop := ∃ g, PG X tg g ∧
  ∀ σ H B w v, Rl X.K p.T p.φ B w H σ ρ → Dp X.K B v x → ∀ Q : L2.St → Hp → Prop, (∀ σ' H' B' w', Stp p.T w B H w' B' H' → Rl X.K p.T p.φ B' w' H' σ' ρ' → Q σ' H') → g v σ H Q
def GWs (X : Cx) (p : Pm) (tgs : List Expr) (xs : List PyData) (ρ ρ' : Rho) : Prop := ∃ g, PGs X tgs g ∧
  ∀ σ H B w vs, Rl X.K p.T p.φ B w H σ ρ → DpAll X.K B vs xs → ∀ Q : L2.St → Hp → Prop, (∀ σ' H' B' w', Stp p.T w B H w' B' H' → Rl X.K p.T p.φ B' w' H' σ' ρ' → Q σ' H') → g vs σ H Q
section
variable {X : Cx} {p : Pm} {er : Er} {ρ ρ1 ρ2 ρ3 ρ4 : Rho} {a b e tg : Expr} {es : List Expr} {xs : List PyData} {x z : PyData} {pos pos2 : Pos} {i j : Nat} {js : List Nat}
theorem GV.gw (h : GV X p tg x ρ ρ1 js) : GW X p tg x ρ ρ1 := by
  obtain ⟨g, pg, eg⟩ := h
  exact ⟨g, pg, fun σ H B w v F d Q k => eg σ H B w v F d Q fun σ' F' _ => k σ' H B w Stp.refl F'⟩
theorem gw_item {k : Int} (ho : RV X p a ρ (.sl i) ρ1) (hi : RV X p b ρ1 (.da (.int k)) ρ2) (hl : ρ2[i]? = some (oo xs)) (hk : ixN xs.length k = some j)
    (ha : ∀ v, assign (.Subscript a b pos2) X.env v = (do
      let ov ← holding [v] (eval a X.env)
      let iv ← holding [v, ov] (eval b X.env)
      standAt pos2
      holding [v, ov, iv] (setItem ov iv v)
      release [v, ov, iv] []) := by intro _; rfl) (hE : ρ4 = ρ2.set i (oo (xs.set j z)) := by rfl) : GW X p (.Subscript a b pos2) z ρ ρ4 := by
  subst hE
  obtain ⟨ta, pa, ea⟩ := ho
  obtain ⟨tb, pb, eb⟩ := hi
  refine ⟨_, pg_sub pa pb set_list ha, fun σ H B w v F d Q k0 => ea σ H B w F _ fun o H2 B2 w2 s2 F2 i2 => eb σ H2 B2 w2 F2 _ fun ki H3 B3 w3 s3 F3 i3 => ?_⟩
  obtain ⟨l, us, h1, h2, h3, h4, h5⟩ := F3.own i xs hl
  have i2' : σ[i]? = some (some o) := i2
  rw [h1] at i2'
  obtain rfl : V.ref l = o := Option.some.inj (Option.some.inj i2')
  obtain ⟨s4, F4⟩ := rl_mut F3 hl h1 (dpa_set j h5 (dp_mono (s2.trans s3).bb d))
  exact ⟨l, us, k, j, rfl, dp_int i3, h4, by rw [dpa_len h5]; exact hk, k0 _ _ _ _ ((s2.trans s3).trans s4) F4⟩
theorem gws_nil : GWs X p [] [] ρ ρ := ⟨_, pgs_nil, fun σ H B w vs F d Q k => by
  cases d
  exact ⟨rfl, k σ H B w Stp.refl F⟩⟩
theorem gws_cons (h : GW X p e z ρ ρ1) (t : GWs X p es xs ρ1 ρ2) (hs : (assignEach (e :: es) X.env).map (·.2) = assign e X.env :: (assignEach es X.env).map (·.2) := by rfl) : GWs X p (e :: es) (z :: xs) ρ ρ2 := by
  obtain ⟨g, pg, eg⟩ := h
  obtain ⟨gs, pgs, egs⟩ := t
  refine ⟨_, pgs_cons pg pgs hs, fun σ H B w vs F d Q k => ?_⟩
  cases d with
  | cons d r => exact ⟨_, _, rfl, eg σ H B w _ F d _ fun σ' H' B' w' s' F' => egs σ' H' B' w' _ F' (dpa_mono s'.bb r) _ fun σ2 H2 B2 w2 s2 F2 => k σ2 H2 B2 w2 (s'.trans s2) F2⟩
theorem gw_tup {jj : Nat} (hc : X.calm = true) (h : GWs X p es xs ρ ρ1) (hn : (assignEach es X.env).length = xs.length := by rfl) (hst : (assignEach es X.env).findIdx? (·.1) = none := by rfl) : GW X p (.Tuple es jj pos) (.tuple xs) ρ ρ1 := by
  obtain ⟨g, pg, eg⟩ := h
  refine ⟨_, pg_tup hc pg hn hst, fun σ H B w v F d Q k => ?_⟩
  obtain ⟨l, us, e, sq, d'⟩ := dp_tup d
  exact ⟨l, us, e, same_t F.ext sq, dpa_len d', eg σ H B w us F d' Q k⟩
/-- a general assignment -/
theorem rs_asgW (h : RV X p e ρ (.da z) ρ1) (g : GW X p tg z ρ1 ρ2) (hs : swapsWithSole [tg] e pos.line X.env = pure false := by rfl) (hw : swappedStores [tg] e X.env = pure none := by rfl)
    (h1 : (assignEach [tg] X.env).map (·.2) = [assign tg X.env] := by rfl) : RS X p er (.Assign [tg] e pos) ρ (.nx ρ2) := by
  obtain ⟨t, pt, et⟩ := h
  obtain ⟨g, pg, eg⟩ := g
  exact ⟨_, ps_asg pt pg hs hw h1, fun σ H B w F D k => et σ H B w F _ fun v H' B' w' s F' d => eg σ H' B' w' v F' d _ fun σ' H2 B2 w2 s2 F2 => k σ' H2 B2 w2 (s.trans s2) F2⟩
end
end Dn

set_option Elab.async false
set_option linter.all false
set_option maxRecDepth 100000
set_option maxHeartbeats 2000000
/-! a lambda of one parameter, called -/
namespace Dn
open PySem PySem.Spec PyProof.Rows L2 LamX

/-- one parameter a; captured names and globals -/
structure LamS1 (sc scope : Scope) (a : Str) : Prop where
  kind : scope.kind = .function
  co : scope.isCoroutine = false
  gen : scope.isGenerator = false
  own : ∀ y ∈ scope.names, (y.2 = .local → y.1 = a) ∧ y.2 ≠ .cell
  par : scope.names.lookup a = some .local
  free : ∀ y ∈ scope.names, y.2 = .free → sc.names.lookup y.1 = some .cell ∨ sc.names.lookup y.1 = some .free
def lamSB1 (sc scope : Scope) (a : Str) : Bool :=
  decide (scope.kind = .function) && !scope.isCoroutine && !scope.isGenerator && decide (scope.names.lookup a = some .local) &&
    scope.names.all fun y => (!decide (y.2 = .local) || decide (y.1 = a)) && !decide (y.2 = .cell) && (!decide (y.2 = .free) || decide (sc.names.lookup y.1 = some .cell) || decide (sc.names.lookup y.1 = some .free))
theorem lamS1_by {sc scope : Scope} {a : Str} (h : lamSB1 sc scope a = true) : LamS1 sc scope a := by
  unfold lamSB1 at h
  simp only [Bool.and_eq_true, Bool.or_eq_true, Bool.not_eq_true', decide_eq_true_eq, decide_eq_false_iff_not, List.all_eq_true] at h
  obtain ⟨⟨⟨⟨h1, h2⟩, h3⟩, h5⟩, h4⟩ := h
  refine ⟨h1, h2, h3, fun y hy => ⟨fun e => ?_, (h4 y hy).1.2⟩, h5, fun y hy e => ?_⟩
  · rcases (h4 y hy).1.1 with z | z
    · exact absurd e z
    · exact z
  · rcases (h4 y hy).2 with (z | z) | z
    · exact absurd e z
    · exact .inl z
    · exact .inr z
theorem LamS1.has {X : Cx} {scope : Scope} {a : Str} (L : LamS1 X.env.scope scope a) (ok : X.Ok) : ∀ y ∈ scope.names, y.2 = .free → ∃ c, X.env.cells.lookup y.1 = some c := fun y hy e => by
  rcases L.free y hy e with k | k
  · exact ok.has _ (.inl k)
  · exact ok.has _ (.inr k)
section
variable {X : Cx} {pins : List (Addr × Obj)} {σ : L2.St} {H : Hp} {s : Shared}
theorem lam1_start {A : Around} {E : XK} {scope : Scope} {f c' : Addr} {h₁ : Heap} {tk j : Nat} {a : Str} {v : V} {u : Value} (I : Inv X pins σ H s) (L : LamS1 X.env.scope scope a) (e0 : Env0 X.prog X.w X.K X.mg X.base A X.stack s H) (hd : A.handled = none)
    (hj : X.N[j]? = some a) (hnd : ∀ i, X.N[i]? = some a → i = j) (r : RelV v u)
    (hns : h₁.Ns s.heap.objs.size fun y => [(a, u)].reverse.lookup y) (kp : ∀ b o, s.heap.get? b = some o → h₁.get? b = some o) :
    Inv (lamCx X A X.stack s H E scope f c') [] (σ.set j (some v)) H { s with heap := h₁, toks := tk } := by
  have hfree := L.has I.ok
  have cm : ∀ {y c}, (cloFrom X.env.cells scope.names []).lookup y = some c → X.env.cells.lookup y = some c := fun {y c} e => by
    rcases cloFrom_mem (PySem.mem_of_lookup e) with hm | ⟨h1, h2⟩
    · cases hm
    · obtain ⟨c1, hc⟩ := hfree _ h1 rfl
      have hc : X.env.cells.lookup y = some c1 := hc
      have e2 : c = c1 := by
        rw [h2, hc] <;> rfl
      rw [e2]
      exact hc
  have look : ∀ {y}, scope.names.lookup y = some .free → ∃ c, (cloFrom X.env.cells scope.names []).lookup y = some c := fun {y} hl => by
    have hy : (y, NameKind.free) ∈ scope.names := PySem.mem_of_lookup hl
    exact mem_lookup (cloFrom_has (cells := X.env.cells) (acc := []) hy)
  have cellK : ∀ {c : Addr} {v : Option Value}, H c = none → s.heap.IsCell c v → h₁.IsCell c v := fun {c v} n ⟨o, ho, hd⟩ => ⟨_, kp _ _ ho, hd⟩
  have noA : ∀ b : Addr, b ∉ (lamCx X A X.stack s H E scope f c').ex := fun b z => absurd (show b ∈ ([] : List Addr) from z) (by simp)
  refine ⟨⟨e0.mod, L.kind, rfl, rfl, Nat.le_refl _, fun y z c e1 e2 => I.ok.inj y z c (cm e1) (cm e2), fun y hy => ?_, fun y c z _ => ?_, fun _ => hd, Around.frames_deeper e0.frames, .inr ⟨rfl, rfl⟩, fun b z => absurd z (noA b), e0.bs, e0.bsz, fun b _ _ => noA b,
      fun b z => absurd z (noA b), e0.funs, e0.frf⟩,
    rfl, e0.bare, Un.kept kp, ⟨_, hns, fun i y v' e1 e2 e3 => ?_⟩, fun y c e => ?_, e0.hok.fresh (Nat.le_refl _), fun y c e => ?_, fun q hq => absurd (show q ∈ ([] : List (Addr × Obj)) ++ [] from hq) (by simp), e0.hok.kept kp, by rw [List.length_set]; exact I.len⟩
  · have hy : scope.names.lookup y = some .cell ∨ scope.names.lookup y = some .free := hy
    rcases hy with hy | hy
    · exact absurd rfl (L.own _ (PySem.mem_of_lookup hy)).2
    · exact look hy
  · have z : false = true := z
    cases z
  · have e3 : Vis scope y := e3
    have e1 : X.N[i]? = some y := e1
    rcases e3 with k | k | k
    · have hy : y = a := (L.own _ (PySem.mem_of_lookup k)).1 rfl
      rw [hy] at e1
      have hi := hnd i e1
      rw [hi] at e2
      have e4 : v' = v := by
        rcases Nat.lt_or_ge j σ.length with hl | hl
        · rw [List.getElem?_set_self hl] at e2
          exact (Option.some.inj (Option.some.inj e2)).symm
        · rw [List.getElem?_eq_none (by rw [List.length_set]; exact hl)] at e2
          cases e2
      rw [e4, hy]
      refine ⟨u, r, .inl ⟨L.par, ?_⟩⟩
      show ([(a, u)].reverse).lookup a = some u
      simp [List.lookup]
    · exact absurd rfl (L.own _ (PySem.mem_of_lookup k)).2
    · have hij : i ≠ j := fun z => by
        rw [z, hj] at e1
        have e1 := Option.some.inj e1
        rw [← e1, L.par] at k
        cases k
      rw [List.getElem?_set_ne (Ne.symm hij)] at e2
      obtain ⟨m, hn, hl⟩ := I.loc
      have hvis : Vis X.env.scope y := (L.free _ (PySem.mem_of_lookup k) rfl).elim (fun k => .inr (.inl k)) (fun k => .inr (.inr k))
      obtain ⟨w', r, q⟩ := hl i y v' e1 e2 hvis
      obtain ⟨c2, h2⟩ := look k
      refine ⟨w', r, .inr ⟨.inr k, c2, h2, ?_⟩⟩
      have c1 := cm h2
      rcases q with ⟨k', _⟩ | ⟨_, c3, e', z⟩
      · have k' : X.env.scope.names.lookup y = some .local := k'
        rcases L.free _ (PySem.mem_of_lookup k) rfl with k2 | k2 <;> rw [show X.env.scope.names.lookup y = _ from k2] at k' <;> cases k'
      · rw [c1] at e'
        cases e'
        exact cellK (I.freeC y _ c1) z
  · obtain ⟨w', z⟩ := I.cell y c (cm e)
    exact ⟨w', cellK (I.freeC y c (cm e)) z⟩
  · exact I.freeC y c (cm e)
theorem cx_no {P : Program} {w : World} {outer : List Env} {u : Value} {s' : Shared} (h : L2.CX P w outer H s (fun _ _ _ => False) u s') : False := by
  obtain ⟨_, _, _, _, _, _, _, _, _, _, _, _, z⟩ := h
  exact z
/-- the lambda is called with u -/
theorem lam1_call {A' : Around} {scope : Scope} {f c' : Addr} {j k : Nat} {a : Str} {v : V} {u pm ctv : Value} {params : Arguments} {body : Expr} {tb : TE} {Q : VK} (I : Inv X pins σ H s) (L : LamS1 X.env.scope scope a)
    (hf : s.heap.get? f = some (PySem.W.kla_obj "<lambda>" (X.env.qual ++ "<lambda>") params body scope (cloFrom X.env.cells scope.names []) pm c' ctv)) (hc : H c' = some (CodeO c' (X.env.qual ++ "<lambda>")))
    (hA : A'.frames = X.A.frames) (hr : Room (k + 1) A') (hj : X.N[j]? = some a) (hnd : ∀ i, X.N[i]? = some a → i = j) (r : RelV v u)
    (hbind : bindArgs (PySem.W.kla_fn "<lambda>" (X.env.qual ++ "<lambda>") params body scope (cloFrom X.env.cells scope.names []) pm (.ref c') ctv) ⟨[u], []⟩ = pure [(a, u)])
    (hbody : PE (lamCx X A' X.stack s H (fun _ _ _ => False) scope f c') body tb) (ht : tb (σ.set j (some v)) H Q) :
    wpAny (model X.prog X.w) A' (call (.ref f) [u]) (EP X pins σ Q) (fun _ _ => False) s := by
  have e0 : Env0 X.prog X.w X.K X.mg X.base A' X.stack s H := { I.env0 with frames := hA.trans I.env0.frames }
  obtain ⟨⟨oc, vs, t, hoc, hdc, hvc⟩, _, _⟩ := I.hok c' _ hc
  have rc : codeAny (model X.prog X.w) A' (.call (.ref f) ⟨[u], []⟩) (CR (L2.CX X.prog X.w) X.stack X.prog X.w H s Q (fun _ _ _ => False)) s := by
    refine PySem.W.kla_callFunE hr.depth hf rfl L.co L.gen rfl ⟨c', oc, vs, t, rfl, hoc, hdc, hvc⟩ ?_
    rw [hbind]
    refine wpAny_pure (wpAny_newFunctionEnv (fun y hy => (L.own y hy).2) (fun y hy => ?_) (fun h₁ hns hsb => ⟨I.nolimit.fresh _ hsb, ?_⟩) L.kind)
    · obtain rfl := List.mem_singleton.mp hy
      exact L.par
    show codeAny _ _ (.expr body (lamEnv X scope s.heap.objs.size f c')) _ _
    have kp : ∀ b o, s.heap.get? b = some o → h₁.get? b = some o := fun b o e => hsb.extBut b o (Nat.ne_of_lt (Heap.lt_size e)) (Heap.get?_push_of_some _ e)
    have J : Inv (lamCx X A' X.stack s H (fun _ _ _ => False) scope f c') [] (σ.set j (some v)) H { s with heap := h₁, toks := s.toks + ([(a, u)] : List (Str × Value)).length } :=
      lam1_start I L e0 hr.hd hj hnd r hns kp
    refine PySem.W.kla_codeExpr (wpAny_mono (hbody.run [] _ _ H Q J ht) (fun v s' hq => ?_) fun e s' hq => hq)
    obtain ⟨w', H', J', rv, q⟩ := hq
    exact ⟨w', H', J'.os, J'.bare, J'.base, J'.hok, rv, q⟩
  refine wpAny_call (codeAny_mono rc fun r s' hq => ?_)
  cases r with
  | error e => exact cx_no hq
  | ok fl =>
    cases fl with
    | ret u => exact I.after hq
    | next => exact False.elim hq
    | brk => exact False.elim hq
    | cont => exact False.elim hq
end
end Dn

set_option Elab.async false
set_option linter.all false
set_option maxRecDepth 100000
set_option maxHeartbeats 2000000
/-! sorting by a key that is a lambda -/
namespace Dn
open PySem PySem.Spec PySem.W PyProof.Rows L2

section
variable {X : Cx} {p : Pm} {ρ : Rho} {σ : L2.St} {pins : List (Addr × Obj)} {s : Shared} {H H0 B0 : Hp} {w0 : Addr → Option Nat} {A' : Around} {fv : Value} {vs : List Value} {kz : List PyData} {a kS : Addr} {e1 : Nat} {b : Bool} {P : PySem.Fin → Shared → Prop} {E : Value → Shared → Prop}

/-- an object of ours, untracked till now, is tracked -/
theorem Inv_track {c : Addr} {o : HO} (I : L2.Inv X pins σ H s) (hf : FpOk X pins H c) (new : ObjOk X.prog X.w (upd H c o) s.heap c o) : L2.Inv X pins σ (upd H c o) s := by
  obtain ⟨n0, n1, n2, n3, n4, n5⟩ := hf
  have ne : ∀ b u, H b = some u → b ≠ c := fun b u e z => by
    rw [z, n0] at e
    cases e
  have J := I.step (h' := s.heap) (H' := upd H c o) (g' := s.gens) (d' := s.drawn) (t' := s.toks) (ch := [c]) (fun b hb => ?_) (fun b o _ _ _ e _ => e) (fun b o _ _ _ e _ => ⟨o.slots, e⟩) (fun b o' hc _ n => ?_) (fun b o _ e => ⟨o, e⟩)
    (fun b xs e => by rw [upd_ne (ne b _ e)]; exact e) (fun b o u e => by rw [upd_ne (ne b _ e)]; exact e) (fun b ps e => ⟨#[], by rw [upd_ne (ne b _ e), e]; simp⟩) (fun m hm => hm) (fun b u e => ?_) I.bare
  · exact J
  · obtain rfl : b = c := by simpa using hb
    exact ⟨n3, n1, n4, n5⟩
  · rw [upd_ne (fun z => hc (by simp [z]))]
    exact n
  · by_cases hb : b = c
    · rw [hb, upd_same] at e
      cases e
      rw [hb]
      exact new
    · rw [upd_ne hb] at e
      exact (I.hok b u e).stay (fun c' v hc q => q) (fun d q => by rw [upd_ne (ne d _ q)]; exact q) fun d xs q => by rw [upd_ne (ne d _ q)]; exact q
/-- f's calls, item by item -/
def Turns (X : Cx) (p : Pm) (ρ : Rho) (σ : L2.St) (pins : List (Addr × Obj)) (w0 : Addr → Option Nat) (B0 H0 : Hp) (A' : Around) (fv : Value) (vs : List Value) (kz : List PyData) : Prop :=
  ∀ (i : Nat) (v : Value) (k : PyData), vs[i]? = some v → kz[i]? = some k → ∀ (pins' : List (Addr × Obj)) (s1 : Shared) (H1 B1 : Hp) (w1 : Addr → Option Nat), (∀ q ∈ pins, q ∈ pins') → L2.Inv X pins' σ H1 s1 → Stp p.T w0 B0 H0 w1 B1 H1 → Rl X.K p.T p.φ B1 w1 H1 σ ρ →
    wpAny (model X.prog X.w) A' (call fv [v]) (fun u s2 => ∃ y H2 B2 w2, L2.Inv X pins' σ H2 s2 ∧ Stp p.T w1 B1 H1 w2 B2 H2 ∧ Rl X.K p.T p.φ B2 w2 H2 σ ρ ∧ RelV y u ∧ Dp X.K B2 y k) (fun _ _ => False) s1
/-- between the turns: kS bears the keys so far, a is empty -/
def Kf (X : Cx) (p : Pm) (ρ : Rho) (σ : L2.St) (pins : List (Addr × Obj)) (w0 : Addr → Option Nat) (B0 H0 : Hp) (kS a : Addr) (e1 : Nat) (kz : List PyData) (s : Shared) : Prop :=
  ∃ H B w kA e, L2.Inv X ((kS, seqObj "list" kA e) :: (a, seqObj "list" #[] e1) :: pins) σ H s ∧ Stp p.T w0 B0 H0 w B H ∧ Rl X.K p.T p.φ B w H σ ρ ∧ PySem.W.EachIs (fun u k => ∃ y, RelV y u ∧ Dp X.K B y k) kA.toList kz
/-- an address of ours -/
def Ours (X : Cx) (pins : List (Addr × Obj)) (b : Addr) : Prop := b ≠ X.env.locals ∧ b ∉ X.fs ∧ (b ∈ X.ex ∨ X.s_0.heap.objs.size ≤ b) ∧ (∀ x c, X.env.cells.lookup x = some c → c ≠ b) ∧ ∀ q ∈ X.pn ++ pins, q.1 ≠ b
theorem fp_ours {b : Addr} (h : FpOk X pins H b) : Ours X pins b := h.2
theorem pin_drop {q : Addr × Obj} (I : L2.Inv X (q :: pins) σ H s) : L2.Inv X pins σ H s := I.pins_of fun r hr => I.pin r (List.mem_append_right _ (.tail _ hr))
theorem pin_at {q : Addr × Obj} (I : L2.Inv X pins σ H s) (hq : q ∈ pins) : s.heap.get? q.1 = some q.2 ∧ H q.1 = none := ⟨(I.pin q (List.mem_append_right _ hq)).1, (I.pin q (List.mem_append_right _ hq)).2.1⟩
theorem pin_add {c : Addr} {o : Obj} (I : L2.Inv X pins σ H s) (ho : s.heap.get? c = some o) (hn : H c = none) (h : Ours X pins c) (hd : ∀ v, o.data ≠ .cell v) : L2.Inv X ((c, o) :: pins) σ H s := I.pins_of fun r hr => by
  rcases List.mem_cons.mp hr with rfl | hr
  · exact ⟨ho, hn, h.1, h.2.1, hd⟩
  · exact I.pin r (List.mem_append_right _ hr)
theorem seq_nocell {c : String} {xs : Array Value} {n : Nat} : ∀ v, (seqObj c xs n).data ≠ .cell v := fun v z => by cases z
theorem keyI_rest (hka : kS ≠ a) (oK : Ours X pins kS) (oA : Ours X pins a) (h0 : Kf X p ρ σ pins w0 B0 H0 kS a e1 [] s) (hlen : kz.length = vs.length) (hZ : vs.length ≤ sizeLine) (hal : AllAlike kz) (hsk : Sortable kz) (hu : ∀ d, d ∈ kz → A'.units + d.depth < cLine)
    (turn : Turns X p ρ σ pins w0 B0 H0 A' fv vs kz)
    (h : ∀ s1 H B w out c, L2.Inv X pins σ H s1 → Stp p.T w0 B0 H0 w B H → Rl X.K p.T p.φ B w H σ ρ → s1.heap.get? a = some (seqObj "list" (List.toArray out) c) → FpOk X pins H a → KeyedOut b kz vs out → P (.done (.ret .none)) s1) :
    wpAny (model X.prog X.w) A' (ksk_rest a fv b vs.toArray e1 (.ref kS)) P E s := by
  unfold ksk_rest
  refine wpAny_bind (wpAny_rule ?_)
  first
    | rw [List.forIn_toArray]
    | (rw [← Array.forIn_toList]; simp only [List.toList_toArray])
    | rw [← Array.forIn_toList]
  refine wpAny_bind (ksk_fold (fun i s' => Kf X p ρ σ pins w0 B0 H0 kS a e1 (kz.take i) s') vs 0 s (by rw [List.take_zero]; exact h0) ?step ?done)
  case step =>
    rintro j x s' hx ⟨H, B, w, kA, e, I, st, F, hk⟩
    simp only [Nat.zero_add] at hk ⊢
    have hj : j < vs.length := (List.getElem?_eq_some_iff.mp hx).1
    obtain ⟨k, hkj⟩ : ∃ k, kz[j]? = some k := ⟨_, List.getElem?_eq_getElem (by omega)⟩
    have hz : kA.size ≤ vs.length := by
      have h1 := hk.length
      rw [Array.length_toList, List.length_take] at h1
      omega
    refine wpAny_bind (wpAny_attempt (wpAny_mono (turn j x k hx hkj _ s' H B w (fun q hq => .tail _ (.tail _ hq)) I st F) (fun u s2 he => ?_) fun _ _ hF => hF.elim))
    obtain ⟨y, H2, B2, w2, I2, st2, F2, ry, dy⟩ := he
    try dsimp only
    obtain ⟨nk, hnk⟩ := pin_at I2 (q := (kS, seqObj "list" kA e)) (.head _)
    obtain ⟨na, hna⟩ := pin_at I2 (q := (a, seqObj "list" #[] e1)) (.tail _ (.head _))
    have nk : s2.heap.get? kS = some (seqObj "list" kA e) := nk
    have hnk : H2 kS = none := hnk
    have na : s2.heap.get? a = some (seqObj "list" #[] e1) := na
    have s1 := Heap.SameBut.update s2.heap kS (Obj.mapSeq (·.push u))
    obtain ⟨c2, hc2⟩ : ∃ c2, (s2.heap.update kS (Obj.mapSeq (·.push u))).get? kS = some (seqObj "list" (kA.push u) c2) := ⟨_, get?_update_seq nk (·.push u)⟩
    have ek : kz.take (j + 1) = kz.take j ++ [k] := by rw [List.take_add_one, hkj]; simp
    have ea : (kA.push u).toList = kA.toList ++ [u] := by simp
    refine wpAny_bind (listUpdate_at nk rfl ?_ (Nat.le_trans hz hZ) (Nat.le_trans (Nat.le_of_eq (Array.size_push ..)) (Nat.succ_le_succ (Nat.le_trans hz hZ))))
    refine wpAny_pure ⟨rfl, ?_⟩
    have I3 : L2.Inv X ((a, seqObj "list" #[] e1) :: pins) σ H2 { s2 with heap := s2.heap.update kS (Obj.mapSeq (·.push u)) } := by
      refine (pin_drop I2).turned (t' := s2.toks) (fun b o hb e => (s1.2 b hb).trans e) hnk oK.1 oK.2.2.1 oK.2.2.2.1 fun q hq => ?_
      rcases List.mem_append.mp hq with z | z
      · exact oK.2.2.2.2 q (List.mem_append_left _ z)
      · rcases List.mem_cons.mp z with rfl | z
        · exact hka.symm
        · exact oK.2.2.2.2 q (List.mem_append_right _ z)
    have oK2 : Ours X ((a, seqObj "list" #[] e1) :: pins) kS := ⟨oK.1, oK.2.1, oK.2.2.1, oK.2.2.2.1, fun q hq => by
      rcases List.mem_append.mp hq with z | z
      · exact oK.2.2.2.2 q (List.mem_append_left _ z)
      · rcases List.mem_cons.mp z with rfl | z
        · exact hka.symm
        · exact oK.2.2.2.2 q (List.mem_append_right _ z)⟩
    refine ⟨H2, B2, w2, kA.push u, c2, pin_add I3 hc2 hnk oK2 seq_nocell, st.trans st2, F2, ?_⟩
    rw [ea, ek]
    exact PySem.W.each_snoc (R := fun (u : Value) (d : PyData) => ∃ y, RelV y u ∧ Dp X.K B2 y d) ⟨y, ry, dy⟩ (hk.mono fun u d q => let ⟨y, q1, q2⟩ := q; ⟨y, q1, dp_mono st2.bb q2⟩)
  case done =>
    rintro s' ⟨H, B, w, kA, e, I, st, F, hk⟩
    have e3 : kz.take (0 + vs.length) = kz := List.take_of_length_le (by omega)
    rw [e3] at hk
    have hk' : PySem.W.EachIs (fun v k => ∃ as, Reads s'.heap v k as) kA.toList kz := hk.mono fun v k q => let ⟨y, q1, q2⟩ := q; Dp.reads I k y v (dp_mono F.ext q2) q1
    have hsz : kA.size = vs.length := by
      have h1 := hk'.length
      rw [Array.length_toList] at h1
      omega
    obtain ⟨nk, hnk⟩ := pin_at I (q := (kS, seqObj "list" kA e)) (.head _)
    obtain ⟨na, hna⟩ := pin_at I (q := (a, seqObj "list" #[] e1)) (.tail _ (.head _))
    have nk : s'.heap.get? kS = some (seqObj "list" kA e) := nk
    have hnk : H kS = none := hnk
    have na : s'.heap.get? a = some (seqObj "list" #[] e1) := na
    have hna : H a = none := hna
    obtain ⟨G, g1, g2⟩ := L2.restrict s'.heap fun b => decide (b ≠ kS)
    have gk : ∀ b o, b ≠ kS → s'.heap.get? b = some o → G.get? b = some o := fun b o hb e => by
      rw [g1 b (by simpa using hb)]
      exact e
    have kp : KeepsBut a G s'.heap := fun b o hb e => by
      by_cases hc : b = kS
      · rw [g2 b (by simpa using hc)] at e
        cases e
      · rw [← g1 b (by simpa using hc)]
        exact e
    try dsimp only
    refine wpAny_bind (listItems_at nk rfl ?_)
    refine keyH_end (κ := dataKind s'.heap kz) (h₁ := G) kp (g2 kS (by simp)) nk na hka (SortsAt.data (s := s') hk' hal hsk hu) hsz hZ fun h3 tk3 c k3 n3 => ?_
    have I1 := pin_drop (pin_drop I)
    have fa : FpOk X pins H a := ⟨hna, oA⟩
    have I3 : L2.Inv X pins σ H { s' with heap := h3, toks := tk3 } := I1.turnedL (ch := [a, kS]) (fun b o hb e => k3 b o (fun z => hb (by simp [z])) (gk b o (fun z => hb (by simp [z])) e)) fun b hb => by
      rcases List.mem_cons.mp hb with rfl | hb
      · exact fa
      · obtain rfl := List.mem_singleton.mp hb
        exact ⟨hnk, oK⟩
    exact h _ H B w _ c I3 st F n3 fa ⟨s'.heap, kA.toList, hal, rfl, hk'⟩
end
end Dn

set_option Elab.async false
set_option linter.all false
set_option maxRecDepth 100000
set_option maxHeartbeats 2000000
/-! sorted(range(..), key=lambda a: ..) -/
namespace Dn
open PySem PySem.Spec PySem.W PySem.Calls PyProof.Rows L2 LamX

section
variable {X : Cx} {p : Pm} {ρ : Rho} {σ : L2.St} {pins : List (Addr × Obj)} {s : Shared} {H H0 B B0 : Hp} {w w0 : Addr → Option Nat} {A' : Around} {fv : Value} {vs : List Value} {kz : List PyData} {a kS : Addr} {n : Nat} {b : Bool} {P : PySem.Fin → Shared → Prop} {E : Value → Shared → Prop}
theorem ours_cons {q : Addr × Obj} {c : Addr} (h : Ours X pins c) (hq : q.1 ≠ c) : Ours X (q :: pins) c := ⟨h.1, h.2.1, h.2.2.1, h.2.2.2.1, fun r hr => by
  rcases List.mem_append.mp hr with z | z
  · exact h.2.2.2.2 r (List.mem_append_left _ z)
  · rcases List.mem_cons.mp z with rfl | z
    · exact hq
    · exact h.2.2.2.2 r (List.mem_append_right _ z)⟩
theorem keyI_tree (I : L2.Inv X pins σ H s) (st : Stp p.T w0 B0 H0 w B H) (F : Rl X.K p.T p.φ B w H σ ρ) (ho : s.heap.get? a = some (seqObj "list" vs.toArray n)) (fa : FpOk X pins H a) (hlen : kz.length = vs.length) (hZ : vs.length ≤ sizeLine) (hal : AllAlike kz) (hsk : Sortable kz) (hu : ∀ d, d ∈ kz → A'.units + d.depth < cLine)
    (turn : Turns X p ρ σ pins w0 B0 H0 A' fv vs kz)
    (h : ∀ s1 H B w out c, L2.Inv X pins σ H s1 → Stp p.T w0 B0 H0 w B H → Rl X.K p.T p.φ B w H σ ρ → s1.heap.get? a = some (seqObj "list" (List.toArray out) c) → FpOk X pins H a → KeyedOut b kz vs out → P (.done (.ret .none)) s1) :
    wpAny (model X.prog X.w) A' (ksk_tree a fv b) P E s := by
  have ha : a < s.heap.objs.size := Heap.lt_size ho
  obtain ⟨e1, ho1⟩ : ∃ e1, (s.heap.update a (Obj.mapSeq fun _ => (#[] : Array Value))).get? a = some (seqObj "list" #[] e1) := ⟨_, get?_update_seq ho fun _ => #[]⟩
  have s1 := Heap.SameBut.update s.heap a (Obj.mapSeq fun _ => (#[] : Array Value))
  have hkS : ((s.heap.update a (Obj.mapSeq fun _ => (#[] : Array Value))).push (seqObj "tuple" vs.toArray 0)).objs.size = s.heap.objs.size + 1 := by rw [size_push', Heap.size_update]
  unfold ksk_tree
  refine wpAny_bind (listItems_at ho rfl ?_)
  refine wpAny_bind (listUpdate_at ho rfl ?_ (by rw [List.size_toArray]; exact hZ) (Nat.zero_le _))
  refine wpAny_bind (seqEpoch_at ho1 rfl ?_)
  refine wpAny_bind (wpAny_newTuple ?_ (by show vs.length ≤ _; exact hZ))
  refine wpAny_bind (wpAny_newList ?_ (Nat.zero_le _))
  refine wpAny_holding ?_
  have I1 : L2.Inv X pins σ H { s with heap := s.heap.update a (Obj.mapSeq fun _ => #[]) } := I.turned (t' := s.toks) (fun c o hc e => (s1.2 c hc).trans e) fa.1 fa.2.1 fa.2.2.2.1 fa.2.2.2.2.1 fa.2.2.2.2.2
  have I2 : L2.Inv X pins σ H { s with heap := (s.heap.update a (Obj.mapSeq fun _ => #[])).push (seqObj "tuple" vs.toArray 0) } := I1.kept (t' := s.toks) fun c o e => Heap.get?_push_of_some _ e
  have I3 : L2.Inv X pins σ H { s with heap := ((s.heap.update a (Obj.mapSeq fun _ => #[])).push (seqObj "tuple" vs.toArray 0)).push (seqObj "list" #[] 0) } := I2.kept (t' := s.toks) fun c o e => Heap.get?_push_of_some _ e
  have hka : ((s.heap.update a (Obj.mapSeq fun _ => (#[] : Array Value))).push (seqObj "tuple" vs.toArray 0)).objs.size ≠ a := by
    rw [hkS]
    exact Nat.ne_of_gt (Nat.lt_succ_of_lt ha)
  have fk : FpOk X pins H ((s.heap.update a (Obj.mapSeq fun _ => (#[] : Array Value))).push (seqObj "tuple" vs.toArray 0)).objs.size := I2.fpOk (Nat.le_refl _) (I2.hok.fresh (Nat.le_refl _))
  have I4 : L2.Inv X ((a, seqObj "list" #[] e1) :: pins) σ H { s with heap := ((s.heap.update a (Obj.mapSeq fun _ => #[])).push (seqObj "tuple" vs.toArray 0)).push (seqObj "list" #[] 0) } :=
    pin_add I3 (Heap.get?_push_of_some _ (Heap.get?_push_of_some _ ho1)) fa.1 fa.2 seq_nocell
  have I5 := pin_add (c := ((s.heap.update a (Obj.mapSeq fun _ => (#[] : Array Value))).push (seqObj "tuple" vs.toArray 0)).objs.size) (o := seqObj "list" #[] 0) I4 (Heap.get?_push_size _ rfl) fk.1 (ours_cons fk.2 hka.symm) seq_nocell
  exact keyI_rest (H0 := H0) (B0 := B0) (w0 := w0) hka fk.2 fa.2 ⟨H, B, w, #[], 0, I5, st, F, .nil⟩ hlen hZ hal hsk hu turn h
end
end Dn

set_option Elab.async false
set_option linter.all false
set_option maxRecDepth 100000
set_option maxHeartbeats 2000000
/-! sorted(range(n), key=lambda a: ..) as an expression -/
namespace Dn
open PySem PySem.Spec PySem.W PySem.Calls PyProof.Rows L2 LamX

section
variable {X : Cx} {p : Pm} {ρ ρ1 : Rho} {σ : L2.St} {pins : List (Addr × Obj)} {s : Shared} {H H0 B B0 : Hp} {w w0 : Addr → Option Nat} {E : Value → Shared → Prop}
def IntV (v : Value) (i : Nat) : Prop := ∃ t, v = .int (i : Int) t
theorem each_rng {acc : Array Value} {n : Nat} (h : ItemsOf (fun i v => ∃ t, v = Value.int (0 + i * 1) t) acc n) : PySem.W.EachIs IntV acc.toList (List.range n) := by
  have e : acc.toList.length = n := by rw [Array.length_toList]; exact h.1
  have aux : ∀ (l : List Value) (k : Nat), (∀ (j : Nat) (u : Value), l[j]? = some u → IntV u (k + j)) → PySem.W.EachIs IntV l (List.range' k l.length) := by
    intro l
    induction l with
    | nil => intro k _; exact .nil
    | cons v l ih =>
      intro k hl
      rw [List.length_cons, List.range'_succ]
      refine .cons (by simpa using hl 0 v rfl) (ih (k + 1) fun j u hj => ?_)
      have := hl (j + 1) u (by simpa using hj)
      rwa [show k + 1 + j = k + (j + 1) by omega]
  rw [← e, List.range_eq_range']
  refine aux acc.toList 0 fun j u hj => ?_
  obtain ⟨t, rfl⟩ := h.2 j u (by rw [← hj, Array.getElem?_toList])
  exact ⟨t, by rw [Nat.zero_add, Int.mul_one, Int.zero_add]⟩
theorem each_get {α β : Type} {R : α → β → Prop} : ∀ {as : List α} {bs : List β} {i : Nat} {x : α} {y : β}, PySem.W.EachIs R as bs → as[i]? = some x → bs[i]? = some y → R x y
  | _, _, i, _, _, .nil, h, _ => by simp at h
  | _, _, 0, _, _, .cons h _, e1, e2 => by
    simp at e1 e2
    subst e1
    subst e2
    exact h
  | _, _, i + 1, _, _, .cons _ t, e1, e2 => each_get (i := i) t (by simpa using e1) (by simpa using e2)
theorem each_vals : ∀ {vs : List Value} {ns : List Nat}, PySem.W.EachIs IntV vs ns → Vals (ns.map fun (i : Nat) => V.int (i : Int)) vs
  | _, _, .nil => .nil
  | _, _, .cons h r => .cons (let ⟨t, e⟩ := h; ⟨t, e⟩) (each_vals r)
theorem dpa_nats (K : PySem.W.Frag) (B : Hp) : ∀ ns : List Nat, DpAll K B (ns.map fun (i : Nat) => V.int (i : Int)) (ns.map fun (i : Nat) => PyData.int (i : Int))
  | [] => .nil
  | n :: ns => .cons (.int n) (dpa_nats K B ns)
/-- the order that keys give -/
def byKey (n : Nat) (kf : Nat → PyData) : List PyData := ((List.range n).mergeSort (dataLe false kf)).map fun (i : Nat) => PyData.int (i : Int)
theorem sortedR {r f : Addr} {n : Nat} {t u v : Tok} {kf : Nat → PyData} {Q : VK} (I : L2.Inv X pins σ H s) (st : Stp p.T w0 B0 H0 w B H) (F : Rl X.K p.T p.φ B w H σ ρ) (hc : X.calm = true) (hr : IsRange s.heap r 0 (n : Int) 1 t u v) (hn : n ≤ 2 ^ 24)
    (hal : AllAlike ((List.range n).map kf)) (hsk : Sortable ((List.range n).map kf)) (hu : ∀ d, d ∈ (List.range n).map kf → X.A.in1.in1.units + d.depth < cLine)
    (turn : ∀ vs, PySem.W.EachIs IntV vs (List.range n) → Turns X p ρ σ pins w0 B0 H0 X.A.in1.in1 (.ref f) vs ((List.range n).map kf))
    (k0 : ∀ (v : V) (H' B' : Hp) (w' : Addr → Option Nat), Stp p.T w0 B0 H0 w' B' H' → Rl X.K p.T p.φ B' w' H' σ ρ → ItV X.K B' w' H' H0 σ v (.li (byKey n kf)) → Q v H') :
    wpAny (model X.prog X.w) X.A (call (.builtin "sorted") [.ref r] [(Str.ofString "key", .ref f)]) (EP X pins σ Q) E s := by
  refine call_function_entry_kw kind_sorted plain_sorted entry_sorted (ksk_s1 _ _) ?_
  unfold Builtin.«sorted»
  refine wpAny_bind (m := PySem.checkCount "sorted" 1 1 _) (wpAny_pure ?_)
  have hh : X.A.in1.handled = none := I.ok.hd hc
  have hN : Builtin.Range.rangeSize 0 (n : Int) 1 = (n : Int) := by rw [rangeSize_nat]; simp
  refine wpAny_bind (collect_range (n := n) hh hr (small_one (by omega) (by omega) (by omega) (by omega)) hN hn fun h' tk acc hk hi => ?_)
  have he := each_rng hi
  have hl : acc.toList.length = n := by rw [Array.length_toList]; exact hi.1
  have hz : acc.toList.length ≤ sizeLine := by rw [hl, sizeLine_eq]; omega
  refine wpAny_bind (wpAny_newList ?_ hz)
  have I1 : L2.Inv X pins σ H { s with heap := h', toks := tk } := I.kept hk
  have I2 : L2.Inv X pins σ H { s with heap := h'.push (seqObj "list" acc.toList.toArray 0), toks := tk } := I1.kept (t' := tk) fun c o e => Heap.get?_push_of_some _ e
  have fa : FpOk X pins H h'.objs.size := I1.fpOk (Nat.le_refl _) (I1.hok.fresh (Nat.le_refl _))
  refine wpAny_bind (wpAny_holding (wpAny_call_entry_kw slot_list_sort ⟨_, Heap.get?_push_size _ rfl, rfl⟩ entry_list_sort ?_ (ksk_l1 _ _)))
  rw [ksk_t1]
  refine keyI_tree (kz := (List.range n).map kf) I2 st F (Heap.get?_push_size _ rfl) fa (by rw [List.length_map, List.length_range, hl]) hz hal hsk hu (turn _ he) fun s1 H1 B1 w1 out c I3 st3 F3 ho fa3 hk3 => ?_
  have eo := keyedOut_each kf hk3 he
  refine ⟨_, rfl, wpAny_pure ⟨_, rfl, ?_⟩⟩
  have lz : (((List.range n).mergeSort (dataLe false kf)).map fun (i : Nat) => V.int (i : Int)).length ≤ sizeLine := by
    rw [List.length_map, List.length_mergeSort, List.length_range, ← hl]
    exact hz
  obtain ⟨sN, FN, iN⟩ := new_lst F3 fa3.1 (dpa_nats X.K B1 ((List.range n).mergeSort (dataLe false kf)))
  refine ⟨.ref h'.objs.size, _, Inv_track I3 fa3 (o := .lst (((List.range n).mergeSort (dataLe false kf)).map fun (i : Nat) => V.int (i : Int))) ⟨lz, out, c, each_vals eo, ho⟩, rfl, k0 _ _ _ _ (st3.trans sN) FN (iN.back st3)⟩
end
end Dn

set_option Elab.async false
set_option linter.all false
set_option maxRecDepth 100000
set_option maxHeartbeats 2000000
namespace Dn
open PySem PySem.Spec PySem.W PySem.Calls PyProof.Rows L2 LamX

section
variable {X : Cx} {p : Pm} {ρ ρ1 : Rho} {σ : L2.St} {pins : List (Addr × Obj)} {s : Shared} {H H0 B B0 : Hp} {w w0 : Addr → Option Nat} {E : Value → Shared → Prop} {e : Expr}
theorem fs_stack (I : L2.Inv X pins σ H s) {b : Addr} (h : b ∉ frs X.stack) : b ∉ X.fs := fun hb => h (by
  have hb : b ∈ frs X.outer := hb
  rcases I.ok.stk with e | ⟨e, _⟩
  · rw [e]
    exact hb
  · rw [e]
    unfold frs at hb ⊢
    rw [List.filterMap_cons]
    split
    · exact hb
    · exact List.mem_cons_of_mem _ hb)
theorem fun_pin {f : Addr} {o : Obj} {fd : FuncData} (I : L2.Inv X pins σ H s) (ho : s.heap.get? f = some o) (hd : o.data = .func fd) (hn : H f = none) (hfr : f ∉ frs X.stack) : L2.Inv X ((f, o) :: pins) σ H s := I.pins_of fun r hr => by
  rcases List.mem_cons.mp hr with rfl | hr
  · refine ⟨ho, hn, fun z => ?_, fs_stack I hfr, fun v z => by rw [hd] at z; cases z⟩
    obtain ⟨m, ⟨o2, es, ep, h1, h2, _⟩, _⟩ := I.loc
    have z : f = X.env.locals := z
    rw [z, h1] at ho
    cases ho
    rw [hd] at h2
    cases h2
  · exact I.pin r (List.mem_append_right _ hr)
/-- the slot j is set and unset again -/
theorem Rl.setJ {K : PySem.W.Frag} {T : List (Addr × Str)} {φ : Nat → Option V} {j : Nat} {v : V} {x : PyData} (F : Rl K T φ B w H σ ρ) (hj : j < ρ.length) (hφ : φ j = none) (hd : Dp K B v x): Rl K T φ B w H (σ.set j (some v)) (ρ.set j (dd x)) := by
  refine ⟨F.ext, by rw [List.length_set, List.length_set]; exact F.len, F.wok, F.tabs, F.nt, fun i u h => ?_, fun i z h => ?_, fun i xs h => ?_, fun i O h => ?_⟩
  · have hi : i ≠ j := fun z => by
      rw [z, hφ] at h
      cases h
    rw [List.getElem?_set_ne (Ne.symm hi)]
    exact F.fix i u h
  · by_cases hi : i = j
    · subst hi
      rw [List.getElem?_set_self hj] at h
      have e : x = z := by
        have h := Option.some.inj h
        cases h
        rfl
      subst e
      exact ⟨v, by rw [List.getElem?_set_self (by rw [← F.len]; exact hj)], hd⟩
    · rw [List.getElem?_set_ne (Ne.symm hi)] at h ⊢
      exact F.dat i z h
  · by_cases hi : i = j
    · subst hi
      rw [List.getElem?_set_self hj] at h
      cases h
    · rw [List.getElem?_set_ne (Ne.symm hi)] at h ⊢
      exact F.own i xs h
  · by_cases hi : i = j
    · subst hi
      rw [List.getElem?_set_self hj] at h
      cases h
    · rw [List.getElem?_set_ne (Ne.symm hi)] at h ⊢
      exact F.obj i O h
theorem Rl.unsetJ {K : PySem.W.Frag} {T : List (Addr × Str)} {φ : Nat → Option V} {j : Nat} {v : V} {r : Option Dt} (F : Rl K T φ B w H (σ.set j (some v)) (ρ.set j r)) (hj : ρ[j]? = some none) (hφ : φ j = none) : Rl K T φ B w H σ ρ := by
  refine ⟨F.ext, by have := F.len; rwa [List.length_set, List.length_set] at this, F.wok, F.tabs, F.nt, fun i u h => ?_, fun i z h => ?_, fun i xs h => ?_, fun i O h => ?_⟩
  · have hi : i ≠ j := fun z => by
      rw [z, hφ] at h
      cases h
    have := F.fix i u h
    rwa [List.getElem?_set_ne (Ne.symm hi)] at this
  · have hi : i ≠ j := fun q => by
      rw [q, hj] at h
      cases h
    have := F.dat i z (by rw [List.getElem?_set_ne (Ne.symm hi)]; exact h)
    rwa [List.getElem?_set_ne (Ne.symm hi)] at this
  · have hi : i ≠ j := fun q => by
      rw [q, hj] at h
      cases h
    have := F.own i xs (by rw [List.getElem?_set_ne (Ne.symm hi)]; exact h)
    rwa [List.getElem?_set_ne (Ne.symm hi)] at this
  · have hi : i ≠ j := fun q => by
      rw [q, hj] at h
      cases h
    have := F.obj i O (by rw [List.getElem?_set_ne (Ne.symm hi)]; exact h)
    rwa [List.getElem?_set_ne (Ne.symm hi)] at this
/-- sorted(range(e), key=lambda a: body) -/
theorem rv_sortKR {kf : Nat → PyData} {n k j : Nat} {a : Str} {c P0 : Addr} {params : Arguments} {body : Expr} {scope : Scope} {lpos p1 p2 p3 p4 pos : Pos} (hc : X.calm = true) (h : RV X p e ρ (.da (.int (n : Int))) ρ1) (hn : n ≤ 2 ^ 24)
    (hal : AllAlike ((List.range n).map kf)) (hsk : Sortable ((List.range n).map kf)) (hdp : ∀ i, i < n → (kf i).depth ≤ 100)
    (TBx : LamX.TabB X.base X.mg c P0) (hcode : X.env.code = .ref c) (hmT : (P0, X.env.qual ++ "<lambda>") ∈ p.T) (hu : ∀ q ∈ p.T, q.1 = P0 → q.2 = X.env.qual ++ "<lambda>") (hr : Room (k + 3) X.A) (L : LamS1 X.env.scope scope a)
    (hj : X.N[j]? = some a) (hnd : ∀ i, X.N[i]? = some a → i = j) (hρ : ρ1[j]? = some none) (hφ : p.φ j = none)
    (hbody : ∀ (i : Nat), i < n → ∀ (A : Around) (s : Shared) (H : Hp) (f c' : Addr), Room k (LamX.lamCx X A X.stack s H (fun _ _ _ => False) scope f c').A →
      RV (LamX.lamCx X A X.stack s H (fun _ _ _ => False) scope f c') p body (ρ1.set j (dd (.int (i : Int)))) (.da (kf i)) (ρ1.set j (dd (.int (i : Int)))))
    (hm : X.mg "sorted" = none) (hmr : X.mg "range" = none)
    (hdef : defaultsOf params X.env = ([], []) := by rfl) (hbind : ∀ (q : Str) (cl : List (Str × Addr)) (pm cv ctv u : Value), bindArgs (PySem.W.kla_fn "<lambda>" q params body scope cl pm cv ctv) ⟨[u], []⟩ = pure [(a, u)] := by exact fun _ _ _ _ _ _ => rfl)
    (hg : Gl X "sorted" := by rfl) (hgr : Gl X "range" := by rfl) (na : starEach [e] X.env = (false, eval e X.env) :: starEach [] X.env := by rfl) :
    RV X p (.Call (.Name "sorted" p1) [.Call (.Name "range" p2) [e] [] p3] [⟨some "key", .Lambda params body scope lpos, p4⟩] pos) ρ (.li (byKey n kf)) ρ1 := by
  obtain ⟨te, pe, ee⟩ := h
  refine ⟨fun σ H Q => ∃ B w, Rl X.K p.T p.φ B w H σ ρ ∧ ∀ v H' B' w', Stp p.T w B H w' B' H' → Rl X.K p.T p.φ B' w' H' σ ρ1 → ItV X.K B' w' H' H σ v (.li (byKey n kf)) → Q v H', ⟨fun pins s σ H Q I hq => ?_⟩, fun σ H B w F Q k0 => ⟨B, w, F, k0⟩⟩
  obtain ⟨B, w, F, k0⟩ := hq
  refine wpAny_Call_Name_kw (ld_blt (u := .builtin "sorted") I hg hm (by decide +kernel) ?_)
  refine PyProof.Rows.callWith_kw (args_cons (Call_ (ld_blt I hgr hmr boot_range (PyProof.Rows.callWith_type1 (one_arg (R := fun x H1 => ∃ B1 w1, x = V.int (n : Int) ∧ Stp p.T w B H w1 B1 H1 ∧ Rl X.K p.T p.φ B1 w1 H1 σ ρ1) pe I
    (ee σ H B w F _ fun v H1 B1 w1 s1 F1 i1 => ⟨B1, w1, dp_int i1, s1, F1⟩) (fun v s2 x H2 I2 r q => ?_) na) na))) rfl)
  obtain ⟨B1, w1, rfl, st1, F1⟩ := q
  obtain ⟨t, rfl⟩ := r
  refine call_range_1 (args_nil ?_)
  have I3 : L2.Inv X pins σ H2 { s2 with heap := s2.heap.push { cls := .type "range", data := .fields #[.int 0 s2.toks, .int (n : Int) t, .int 1 (s2.toks + 1)] }, toks := s2.toks + 1 + 1 } := I2.kept fun b u e => Heap.get?_push_of_some _ e
  have fr : FpOk X pins H2 s2.heap.objs.size := I2.fpOk (Nat.le_refl _) (I2.hok.fresh (Nat.le_refl _))
  have I4 := pin_add (o := { cls := .type "range", data := .fields #[.int 0 s2.toks, .int (n : Int) t, .int 1 (s2.toks + 1)] }) I3 (Heap.get?_push_size _ rfl) fr.1 fr.2 (fun v z => by cases z)
  show wpAny _ _ (evalAll ((do let v ← eval (.Lambda params body scope lpos) X.env; standAt pos; pure v) :: [])) _ _ _
  refine wpAny_evalAll_cons (wpAny_bind (lam_make2 I4 TBx hcode hmT hu F1.tabs hdef (L.has I4.ok) fun f c' pm ctv H3 s3 I5 eN tN hf hfn hfr hco => ?_))
  refine wpAny_bind (wpAny_standAt (wpAny_pure (wpAny_evalAll_nil ?_)))
  obtain ⟨st2, F2⟩ := F1.extN eN tN
  -- the code object is nobody's list
  have F3 : Rl X.K p.T p.φ B1 (fun q => if q = c' then none else w1 q) H3 σ ρ1 := by
    refine ⟨F2.ext, F2.len, fun q hq => F2.wok q fun z => hq ?_, F2.tabs, F2.nt, F2.fix, F2.dat, fun i xs hi => ?_, fun i O hi => ?_⟩
    · show (if q = c' then none else w1 q) = none
      rw [z]
      split <;> rfl
    · obtain ⟨l, us, h1, h2, h3, h4, h5⟩ := F2.own i xs hi
      have hl : l ≠ c' := fun z => by
        rw [z, hco] at h4
        unfold CodeO at h4
        cases h4
      exact ⟨l, us, h1, by show (if l = c' then none else w1 l) = some i; rw [if_neg hl]; exact h2, h3, h4, h5⟩
    · obtain ⟨l, us, h1, h2, h3, h4, h5⟩ := F2.obj i O hi
      have hl : l ≠ c' := fun z => by
        rw [z, hco] at h4
        exact O.nx h5 _ (Option.some.inj h4).symm
      exact ⟨l, us, h1, by show (if l = c' then none else w1 l) = some i; rw [if_neg hl]; exact h2, h3, h4, h5⟩
  have st3 : Stp p.T w B H (fun q => if q = c' then none else w1 q) B1 H3 := (st1.trans st2).trans ⟨Same.refl _, fun _ _ h _ _ => h, fun _ h => h, fun _ _ h _ => h, fun t => t, fun t => t, fun q hq => .inl fun z => hq (by show (if q = c' then none else w1 q) = none; rw [z]; split <;> rfl)⟩
  have I6 := fun_pin I5 hf rfl hfn hfr
  obtain ⟨hrr, _⟩ := pin_at I6 (q := (s2.heap.objs.size, { cls := .type "range", data := .fields #[.int 0 s2.toks, .int (n : Int) t, .int 1 (s2.toks + 1)] })) (.tail _ (.head _))
  have hus : ∀ d, d ∈ (List.range n).map kf → X.A.in1.in1.units + d.depth < cLine := fun d hd => by
    obtain ⟨i, hi, rfl⟩ := List.mem_map.mp hd
    have h1 := hdp i (List.mem_range.mp hi)
    have h2 := hr.un
    show X.A.units + 1 + 1 + _ < _
    omega
  have hjl : j < ρ1.length := (List.getElem?_eq_some_iff.mp hρ).1
  refine wpAny_mono (sortedR (p := p) (ρ := ρ1) (kf := kf) (f := f) (n := n) (Q := Q) (E := X.xe) I6 Stp.refl F3 hc hrr hn hal hsk hus (fun vs hvs => ?_) (fun v H' B' w' st F' it => k0 v H' B' w' (st3.trans st) F' (it.back st3))) (fun v s4 hq => ?_) fun _ _ h => h
  · intro i v q hv hq pins' s1 H5 B5 w5 hps I7 st5 F5
    have hi : i < n := by
      have := (List.getElem?_eq_some_iff.mp hq).1
      rwa [List.length_map, List.length_range] at this
    have eq : q = kf i := by
      rw [List.getElem?_map, List.getElem?_range hi] at hq
      exact (Option.some.inj hq).symm
    obtain ⟨t', rfl⟩ := each_get hvs hv (List.getElem?_range hi)
    subst eq
    have hc5 : H5 c' = some (CodeO c' (X.env.qual ++ "<lambda>")) := st5.hh c' _ hco (by show (if c' = c' then none else w1 c') = none; rw [if_pos rfl]) fun ps z => codeO_ne ps z
    obtain ⟨hf5, _⟩ := pin_at I7 (hps _ (.head _))
    have r5 : Room (k + 1) X.A.in1.in1 := hr.in1.in1
    obtain ⟨tb, pb, eb⟩ := hbody i hi X.A.in1.in1 s1 H5 f c' (r5.deeper _)
    refine wpAny_mono (lam1_call (Q := fun y H6 => ∃ B6 w6, Stp p.T w5 B5 H5 w6 B6 H6 ∧ Rl X.K p.T p.φ B6 w6 H6 σ ρ1 ∧ Dp X.K B6 y (kf i)) I7 L hf5 hc5 rfl r5 hj hnd (show RelV (.int (i : Int)) _ from ⟨t', rfl⟩) (hbind _ _ _ _ _ _) pb
      (eb _ H5 B5 w5 (F5.setJ hjl hφ (.int _)) _ fun y H6 B6 w6 st6 F6 i6 => ⟨B6, w6, st6, F6.unsetJ hρ hφ, i6⟩)) (fun u s6 hq6 => ?_) fun _ _ h => h
    obtain ⟨y, H6, I8, r8, B6, w6, st6, F6, d6⟩ := hq6
    exact ⟨y, H6, B6, w6, I8, st6, F6, r8, d6⟩
  · obtain ⟨v', H', J, rv, q⟩ := hq
    exact ⟨v', H', pin_drop (pin_drop J), rv, q⟩
end
end Dn

set_option Elab.async false
set_option linter.all false
set_option maxRecDepth 100000
set_option maxHeartbeats 2000000
namespace Dn
open PySem PySem.Spec PySem.W PySem.Calls PyProof.Rows L2 LamX
section
variable {X : Cx} {p : Pm} {ρ ρ1 : Rho} {K : PySem.W.Frag} {B B2 : Hp}
/-- data without an address -/
def flat : PyData → Bool
  | .int _ => true
  | .bool _ => true
  | .str _ => true
  | .none => true
  | _ => false
theorem dp_flat : ∀ {v : V} {x : PyData}, flat x = true → Dp K B v x → Dp K B2 v x
  | _, .int _, _, h => by rw [dp_int h]; exact .int _
  | _, .bool _, _, h => by rw [dp_bool h]; exact .bl _
  | _, .str _, _, h => by rw [dp_str h]; exact .str _
  | _, .none, _, h => by rw [dp_none h]; exact .non
theorem dpa_flat : ∀ {vs : List V} {xs : List PyData}, xs.all flat = true → DpAll K B vs xs → DpAll K B2 vs xs
  | [], [], _, .nil => .nil
  | _ :: _, _ :: _, h, .cons d r => by
    rw [List.all_cons, Bool.and_eq_true] at h
    exact .cons (dp_flat h.1 d) (dpa_flat h.2 r)
theorem flat_ints : ∀ ns : List Int, (ns.map PyData.int).all flat = true
  | [] => rfl
  | _ :: ns => flat_ints ns
/-- a list of ours is lent out while an expression is worked out that ends in a list of flat data -/
theorem evs_loan (i : Nat) {t : TE} {zs ys : List PyData} (hi : ρ[i]? = some (oo zs)) (h : EvS K p t (ρ.set i (dd (.list zs))) (.li ys) ρ1) (hy : ys.all flat = true)
    (hρ : ∀ k us, k ≠ i → ρ[k]? = some (oo us) → ρ1[k]? = some (oo us) ∧ us.all flat = true) (hob : noOb ρ = true := by rfl) : EvS K p t ρ (.li ys) ρ := fun σ H B w F Q k => by
  obtain ⟨l, us, h1, h2, h3, h4, h5⟩ := F.own i zs hi
  obtain ⟨s, F'⟩ := rl_settle0 F hi h1 h2 h3 h4 h5
  refine h σ H _ _ F' Q fun v H2 B2 w2 s2 F2 i2 => ?_
  have s3 := s.trans s2
  have lv : ∀ a, w a ≠ none → Live H a := F.wok
  refine k v H2 B w ⟨fun _ _ z => z, s3.hh, s3.th, fun _ _ z _ => z, s3.tb, fun z => z, fun _ z => .inl z⟩ ⟨s3.bb.trans F2.ext, F.len, fun a z => s3.th a (F.wok a z), F2.tabs, F.nt, F.fix, F.dat, fun j us' hj => ?_, fun j O hj => ?_⟩ ?_
  · by_cases e : j = i
    · subst e
      rw [hi] at hj
      cases hj
      refine ⟨l, us, h1, h2, h3, ?_, h5⟩
      have hb : (upd B l (.lst us)) l = some (.lst us) := upd_same
      exact F2.ext l _ (s2.bb l _ hb)
    · obtain ⟨g1, g2⟩ := hρ j us' e hj
      obtain ⟨m, vs, q1, q2, q3, q4, q5⟩ := F.own j us' hj
      obtain ⟨m', vs', r1, r2, r3, r4, r5⟩ := F2.own j us' g1
      rw [q1] at r1
      obtain rfl : m = m' := V.ref.inj (Option.some.inj (Option.some.inj r1))
      exact ⟨m, vs', q1, q2, q3, r4, dpa_flat g2 r5⟩
  · exact (noOb_at hob hj).elim
  · obtain ⟨a, vs, e, a0, aw, ab, ah, ad⟩ := i2
    refine ⟨a, vs, e, a0, ?_, ?_, ah, dpa_flat hy ad⟩
    · cases q : w a with
      | none => rfl
      | some _ => exact absurd (lv a (by rw [q]; exact fun z => by cases z)) a0
    · cases q : B a with
      | none => rfl
      | some o =>
        have := s3.bb a o q
        rw [this] at ab
        cases ab
theorem rv_loan (i : Nat) {e : Expr} {zs ys : List PyData} (hi : ρ[i]? = some (oo zs)) (h : RV X p e (ρ.set i (dd (.list zs))) (.li ys) ρ1) (hy : ys.all flat = true)
    (hρ : ∀ k us, k ≠ i → ρ[k]? = some (oo us) → ρ1[k]? = some (oo us) ∧ us.all flat = true) (hob : noOb ρ = true := by rfl) : RV X p e ρ (.li ys) ρ := by
  obtain ⟨t, pt, et⟩ := h
  exact ⟨t, pt, evs_loan i hi et hy hρ hob⟩
theorem rc_loan (i : Nat) {e : Expr} {zs ys : List PyData} (hi : ρ[i]? = some (oo zs)) (h : RC X p e (ρ.set i (dd (.list zs))) (.li ys) ρ1) (hy : ys.all flat = true)
    (hρ : ∀ k us, k ≠ i → ρ[k]? = some (oo us) → ρ1[k]? = some (oo us) ∧ us.all flat = true) (hob : noOb ρ = true := by rfl) : RC X p e ρ (.li ys) ρ := by
  obtain ⟨t, pt, qt, et⟩ := h
  exact ⟨t, pt, qt, evs_loan i hi et hy hρ hob⟩
/-- for x in ..: leave with z at the first that g tells, go on behind the loop if none does -/
theorem rf_search {tg iter : Expr} {pos : Pos} {er : Er} {body sts : List Stmt} {xs : List PyData} {ρ0 : Rho} {oc : Oc} (g : PyData → Bool) (z : PyData) (h : IV X p tg iter ρ xs ρ0) (hp : PassesOwn (model X.prog X.w) X.A X.env X.xe) (hc : X.calm = true)
    (step : ∀ (i : Nat) (x : PyData), xs[i]? = some x → ∃ ρ' js, GV X p tg x ρ0 ρ' js ∧ (g x = false → RSs X p er body ρ' (.nx ρ0)) ∧ (g x = true → ∃ ρ'', RSs X p er body ρ' (.rt (.da z) ρ'')))
    (hT : xs.any g = true → oc = .ret (.da z)) (hF : xs.any g = false → RSf X p er sts ρ0 oc) (hs : ∀ x, foldedSetIterable iter X.env x = pure x := by intro _; rfl) : RSf X p er (.For tg iter body [] pos :: sts) ρ oc := by
  have hb : ∀ i x, i < xs.findIdx g → xs[i]? = some x → g x = false := fun i x hi hx => by
    obtain ⟨hl, rfl⟩ := List.getElem?_eq_some_iff.mp hx
    have := List.not_of_lt_findIdx hi
    simpa using this
  cases ha : xs.any g with
  | false =>
    have hn : ∀ x ∈ xs, g x = false := fun x hx => by
      have := List.any_eq_false.mp ha x hx
      simpa using this
    refine rf_cons (rs_for (fun _ => ρ0) h hp hc (fun i x hx => ?_) hs) (hF ha)
    obtain ⟨ρ', js, h1, h2, _⟩ := step i x hx
    exact ⟨ρ', js, h1, .inl (h2 (hn x (List.mem_of_getElem? hx)))⟩
  | true =>
    rw [hT ha]
    have hl : xs.findIdx g < xs.length := by
      obtain ⟨x, hx, hg⟩ := List.any_eq_true.mp ha
      exact List.findIdx_lt_length_of_exists ⟨x, hx, hg⟩
    have hg : g (xs[xs.findIdx g]) = true := List.findIdx_getElem
    obtain ⟨ρ', js, h1, _, h3⟩ := step _ _ (List.getElem?_eq_getElem hl)
    obtain ⟨ρ'', h3⟩ := h3 hg
    refine ⟨_, rss_stop (rs_forX (so := .rt (.da z) ρ'') (xs.findIdx g) (fun _ => ρ0) h hp hc (fun i x hi hx => ?_) (.inr ⟨_, List.getElem?_eq_getElem hl, ρ', js, _, h1, h3, .rt⟩) hs) (fun _ z => nomatch z), .da⟩
    obtain ⟨ρ1, js1, g1, g2, _⟩ := step i x hx
    exact ⟨ρ1, js1, g1, .inl (g2 (hb i x hi hx))⟩
/-- o.index(e), ints of a list of ours -/
theorem rv_index (i : Nat) {a e : Expr} {ns : List Int} {m : Int} {j : Nat} {ρ2 : Rho} {apos cpos : Pos} (ho : RV X p a ρ (.sl i) ρ1) (h : RV X p e ρ1 (.da (.int m)) ρ2) (hl : ρ2[i]? = some (oo (ns.map .int))) (hj : ns[j]? = some m)
    (hno : ∀ (k : Nat) (x : Int), k < j → ns[k]? = some x → x ≠ m) (hl1 : ∃ ys, ρ1[i]? = some (oo ys))
    (hbase : attributeBase a "index" X.env (eval a X.env) = eval a X.env := by rfl)
    (hfew : ((backTo cpos (starEach [e] X.env)).all (fun x => !x.1) && (backToKw cpos (keywordEach [] X.env)).all (fun x => x.1.isSome)
      && decide ([e].length + ([] : List Keyword).length + (if ([] : List Keyword).isEmpty then 0 else 1) < 30)) = true := by rfl)
    (hline : (apos.endLine == cpos.line) = true := by rfl) (hs : starEach [e] X.env = (false, eval e X.env) :: starEach [] X.env := by rfl) (hplain : (backTo cpos (starEach [] X.env)).any (·.1) = false := by rfl) :
    RV X p (.Call (.Attribute a "index" apos) [e] [] cpos) ρ (.da (.int (j : Int))) ρ2 := by
  obtain ⟨ta, pa, ea⟩ := ho
  obtain ⟨te, pe, ee⟩ := h
  obtain ⟨ys, hys⟩ := hl1
  refine ⟨_, pe_bm PySem.F.plainAttrs_list PySem.F.slot_list_index PySem.F.type_list_index mt_index pa (pa_cons pe pa_nil hs) hbase hfew hline hs hplain, fun σ H B w F Q k0 => ea σ H B w F _ fun o H1 B1 w1 s1 F1 i1 => ?_⟩
  have i1' : σ[i]? = some (some o) := i1
  obtain ⟨l, us0, g1, g2, g3, g4, g5⟩ := F1.own i ys hys
  rw [g1] at i1'
  obtain rfl : V.ref l = o := Option.some.inj (Option.some.inj i1')
  refine ⟨.inl ⟨rfl, us0, .inl (.inl g4)⟩, ee σ H1 B1 w1 F1 _ fun v H2 B2 w2 s2 F2 i2 => ?_⟩
  obtain ⟨l', us, h1, h2, h3, h4, h5⟩ := F2.own i _ hl
  rw [g1] at h1
  obtain rfl : l = l' := V.ref.inj (Option.some.inj (Option.some.inj h1))
  obtain rfl := dpa_ints h5
  rw [dp_int i2]
  refine ⟨l, ns.map .int, .int m, j, .int m, rfl, rfl, .inl (.inl h4), rfl, ?_, by rw [List.getElem?_map, hj]; rfl, by simp [eqV], fun k z hk hz => ?_, k0 _ H2 B2 w2 (s1.trans s2) F2 (.int _)⟩
  · rw [List.all_map, List.all_eq_true]
    exact fun _ _ => rfl
  · rw [List.getElem?_map] at hz
    obtain ⟨x, hx, rfl⟩ := Option.map_eq_some_iff.mp hz
    have := hno k x hk hx
    simp [eqV, this]
end
end Dn

set_option Elab.async false
set_option linter.all false
set_option maxRecDepth 100000
set_option maxHeartbeats 2000000
namespace Dn
open PySem PySem.Spec PySem.W PySem.Calls PyProof.Rows L2 LamX
theorem canLayI : ∀ ns : List Int, PyData.canLayAll0 (ns.map PyData.int) = true
  | [] => by simp [PyData.canLayAll0]
  | n :: ns => by simp [PyData.canLayAll0, PyData.canLay0, canLayI ns]
theorem shaped_ti (ns : List Int) : SeqAt.shaped (.tuple (ns.map PyData.int)) = true := by
  simp [SeqAt.shaped, PyData.canLay0, PyData.depth, canLayI, PySem.W.depth_ints]
theorem shaped_li (ns : List Int) : SeqAt.shaped (.list (ns.map PyData.int)) = true := by
  simp [SeqAt.shaped, PyData.canLay0, PyData.depth, canLayI, PySem.W.depth_ints]
theorem eqv_ti (ns : List Int) : PyData.eqv (.tuple (ns.map PyData.int)) (.tuple (ns.map PyData.int)) = true :=
  PySem.W.eqv_refl_alike _ (by unfold PySem.W.alike; exact PySem.W.alike_ints _ _)
theorem eqv_li (ns : List Int) : PyData.eqv (.list (ns.map PyData.int)) (.list (ns.map PyData.int)) = true :=
  PySem.W.eqv_refl_alike _ (by unfold PySem.W.alike; exact PySem.W.alike_ints _ _)
theorem rep_one {α : Type} (x : α) : ∀ n : Nat, (List.replicate n [x]).flatten = List.replicate n x
  | 0 => rfl
  | n + 1 => by rw [List.replicate_succ, List.flatten_cons, rep_one x n]; rfl
section
variable {X : Cx} {p : Pm} {ρ ρ1 : Rho} {e : Expr}
theorem rv_eqD {x y : PyData} (h : RV X p e ρ (.da x) ρ1) (ex : x = y) : RV X p e ρ (.da y) ρ1 := ex ▸ h
theorem rs_eq {st : Stmt} {er : Er} {ρ2 : Rho} (h : RS X p er st ρ (.nx ρ1)) (e : ρ1 = ρ2) : RS X p er st ρ (.nx ρ2) := e ▸ h
end
/-- what a loop's body is -/
def loopOf (st : Stmt) : List Stmt := match st with
  | .For _ _ b _ _ => b
  | _ => []
end Dn

set_option Elab.async false
set_option linter.all false
set_option maxRecDepth 100000
set_option maxHeartbeats 3200000
namespace L2
open PySem PySem.Spec PyProof.Rows
section
variable {P : Program} {w : World} {A : Around} {E : Value → Shared → Prop} {s : Shared}
abbrev bareSet (w : World) : Obj := { cls := .type "set", dict := none, data := .set #[] 0 (.fresh 0 0 (!w.params.followText "set-order")) }
abbrev withSet (w : World) (s : Shared) : Shared := { s with heap := s.heap.push (bareSet w) }
/-- set(l), l a list of ints -/
theorem call_set_lst {l : Addr} {its : Array Value} (ms : List Int) {Q : Value → Shared → Prop} (hh : A.handled = none) (hl : s.heap.IsList l its) (hi : IntsAre its.toList ms) (hb : ms.length + 1 < scanBound)
    (h : ∀ (h' : Heap) (tk c : Nat), SetR w h' s.heap.objs.size (fun j => decide (j ∈ ms)) c → c ≤ ms.length → (∀ b o, s.heap.get? b = some o → h'.get? b = some o) → Q (.ref s.heap.objs.size) { s with heap := h', toks := tk }) :
    wpAny (model P w) A (call (.type "set") [.ref l]) Q E s := by
  have size1 : its.size = ms.length := by
    have e := IntsAre.length hi
    rw [Array.length_toList] at e
    exact e
  obtain ⟨c, tl, hmro⟩ := F.called_set.mro
  obtain ⟨hmade, hsub⟩ := And.intro F.called_set.made F.called_set.sub
  refine wpAny_call (codeAny_of_tree ?_)
  show wpAny _ _ (callAny (.type "set") _) _ _ _
  refine wpAny_pure (Q := _) (And.intro (Code.quiet_builtin _ (by decide +kernel)) (codeAny_builtin F.entry_type_call ?_))
  rw [Around.under_plain (weight_type_call_type "set" [.ref l] []) rfl]
  obtain ⟨h1, h2, hct⟩ := And.intro F.called_set.notType (And.intro F.called_set.canCreate (F.typeCall_set_1 (.ref l)))
  repeat (any_goals (first | assumption | wp_step))
  refine codeAny_mono (code_set_led1 (.ref l) (E := E) (Q₁ := fun u z => u = .ref s.heap.objs.size ∧ z = withSet w s) ⟨rfl, rfl⟩) fun r z hr => ?_
  match r, hr with
  | .error e, hr => exact hr
  | .ok fl, hr =>
    match fl, hr with
    | .ret u, hr =>
      obtain ⟨rfl, rfl⟩ := hr
      have at0 : (s.heap.push (bareSet w)).get? s.heap.objs.size = some (bareSet w) := Heap.get?_push_size _ rfl
      have hT : Shared.TypeIs (withSet w s) (.ref s.heap.objs.size) "set" := ⟨_, at0, rfl⟩
      obtain ⟨hli, hbi⟩ := And.intro F.called_set.init.lookup (F.called_set.init.bind (.ref s.heap.objs.size))
      repeat (any_goals (first | assumption | wp_step))
      refine codeAny_mono (codeAny_call_builtin (R := wants (fun r z => r = .none ∧ ∃ h' tk c, z = { s with heap := h', toks := tk } ∧ SetR w h' s.heap.objs.size (fun j => decide (j ∈ ms)) c ∧ c ≤ ms.length ∧ (∀ b o, s.heap.get? b = some o → h'.get? b = some o)) E)
        F.called_set.init.plain F.entry_set_init (check_set_init_1 hT ?_)) fun r z hr => ?_
      · obtain ⟨ol, hol, hcl, nl, hdl⟩ := hl
        obtain ⟨ocls, odict, odata, oslots⟩ := ol
        simp only at hcl hdl
        subst hcl
        subst hdl
        have at1 : (s.heap.push (bareSet w)).get? l = some { cls := .type "list", dict := odict, data := .seq its nl, slots := oslots } := Heap.get?_push_of_some _ hol
        have t1 := F.sub_list_set
        have t2 := F.sub_list_frozenset
        have t3 : (Value.type "list" == Value.type "dict") = false := by decide
        have il : (s.heap.push (bareSet w)).IsList l its := ⟨_, at1, rfl, nl, rfl⟩
        unfold Builtin.«set.__init__» noKeywords Builtin.Frozenset.updateFrom
        generalize hPI : pyIter = PI
        wp_walk
        subst hPI
        refine wpAny_pyIter_list il ?_
        refine wpAny_bind (wpAny_runValue ?_)
        have lt0 : l < s.heap.objs.size := Heap.lt_size hol
        have nh : A.in1.in1.in1.handled = none := by simp [hh]
        have ne1 : l ≠ (s.heap.push (bareSet w)).objs.size := by
          rw [Heap.size_push]
          exact Nat.ne_of_lt (Nat.lt_succ_of_lt lt0)
        have fr : s.heap.objs.size ∉ [(s.heap.push (bareSet w)).objs.size, l] := by
          rw [Heap.size_push]
          simp only [List.mem_cons, List.not_mem_nil, or_false, not_or]
          exact And.intro (Nat.ne_of_lt (Nat.lt_succ_self _)) (Nat.ne_of_gt lt0)
        refine set_update_ints ((Walks.list nh _ l ne1 its).toS) s.heap.objs.size fr ms size1 hb (fun i v hv => ?_) (its.size - 0) 0 _ (by omega) (Nat.zero_le _) ⟨⟨_, Heap.get?_push_size _ rfl, rfl, rfl⟩, il.push _⟩ ⟨0, Nat.le_refl 0, setR_new_at (Heap.get?_push_of_some _ at0)⟩ fun z c' mv hc' new => ?_
        · have hi2 : i < ms.length := by rw [← size1]; exact (Array.getElem?_eq_some_iff.mp hv).1
          obtain ⟨t, e⟩ := PyProof.Rows.IntsAre.int_at hi i v (by rw [Array.getElem?_toList]; exact hv)
          exact ⟨ms[i], t, List.getElem?_eq_getElem hi2, by rw [e, List.getD_eq_getElem?_getD, List.getElem?_eq_getElem hi2] <;> rfl⟩
        · obtain ⟨h', g2, d', tk', os'⟩ := z
          have eg : g2 = s.gens := mv.gens
          have ed : d' = s.drawn := mv.drawn
          have eo : os' = s.os := mv.os
          subst eg ed eo
          show wpAny _ _ _ _ _ _
          refine wpAny_pure ?_
          show wpAny _ _ (ret Value.none) _ _ _
          rw [size1] at hc'
          refine wpAny_pure ⟨rfl, h', tk', c', rfl, new, hc', fun b o e => mv.heap b o ?_ (Heap.get?_push_of_some _ (Heap.get?_push_of_some _ e))⟩
          have lb : b < s.heap.objs.size := Heap.lt_size e
          rw [Heap.size_push]
          simp only [List.mem_cons, List.not_mem_nil, or_false, not_or]
          exact And.intro (Nat.ne_of_lt lb) (Nat.ne_of_lt (Nat.lt_succ_of_lt lb))
      · match r, hr with
        | .error e, hr => exact hr
        | .ok fl, hr =>
          match fl, hr with
          | .ret r, hr =>
            obtain ⟨rfl, h', tk, c', rfl, new, hc', kp⟩ := hr
            repeat (any_goals (first | assumption | wp_step))
            exact h _ _ _ new hc' kp
end
end L2

set_option Elab.async false
set_option linter.all false
set_option maxRecDepth 100000
set_option maxHeartbeats 2000000
namespace Dn
open PySem PySem.Spec PySem.Calls PyProof.Rows L2
section
variable {X : Cx} {p : Pm} {ρ ρ1 : Rho} {r : Rs}
theorem vals_ints : ∀ {ns : List Int} {us : List Value}, Vals (ns.map V.int) us → IntsAre us ns
  | [], _, .nil => .nil
  | n :: ns, _, .cons h t => by
    obtain ⟨k, rfl⟩ := h
    exact .cons n k (vals_ints t)
/-- how many different ones -/
def Many (ns : List Int) (c : Nat) : Prop := ∀ ms : List Int, ms.Nodup → (∀ k, k ∈ ms ↔ k ∈ ns) → ms.length = c
theorem nodup_len {xs ys : List Int} (hx : xs.Nodup) (hy : ys.Nodup) (h : ∀ k, k ∈ xs ↔ k ∈ ys) : xs.length = ys.length :=
  ((List.perm_ext_iff_of_nodup hx hy).mpr h).length_eq
theorem setR_many {w : World} {h : Heap} {a : Addr} {ns : List Int} {c : Nat} (R : SetR w h a (fun j => decide (j ∈ ns)) c) : Many ns c := fun ms nd hm => by
  obtain ⟨o, es, ep, t, ho, hx, hd, g, nd2, hm2, hb, hf, hn, _⟩ := R
  rw [nodup_len nd nd2 (fun k => by rw [hm k, ← hm2 k, decide_eq_true_eq]), List.length_map, Array.length_toList, hn]
def rSetI (K : PySem.W.Frag) (w : World) : List V → Hp → VK → Prop := fun vs H Q => ∃ (a : Addr) (ns : List Int), vs = [V.ref a] ∧ (SqL K H a (ns.map V.int) ∨ SqT K H a (ns.map V.int)) ∧ ns.length ≤ 4000 ∧
  ∀ p c, H p = none → Many ns c → c ≤ ns.length → Q (.ref p) (upd H p (SetO w p (fun j => decide (j ∈ ns)) c))
theorem cr_setI (hc : X.calm = true) : CallR X (.type "set") (rSetI X.K X.w) := by
  intro pins s σ H vs us Q I r h
  obtain ⟨a, ns, rfl, hs, hl, q⟩ := h
  rw [Vals.ref1 r]
  have big : ns.length + 1 < scanBound := by unfold scanBound; omega
  have fin : ∀ (h' : Heap) (tk c : Nat), SetR X.w h' s.heap.objs.size (fun j => decide (j ∈ ns)) c → c ≤ ns.length → (∀ b o, s.heap.get? b = some o → h'.get? b = some o) → EP X pins σ Q (.ref s.heap.objs.size) { s with heap := h', toks := tk } := fun h' tk c new hc' kp =>
    ⟨.ref _, upd H s.heap.objs.size (SetO X.w s.heap.objs.size (fun j => decide (j ∈ ns)) c), I.laid (t' := tk) kp (Nat.le_refl _) (setO_new new), rfl, q _ c (I.hok.fresh (Nat.le_refl _)) (setR_many new) hc'⟩
  rcases hs with hs | hs
  · obtain ⟨its, rv, pl, hz⟩ := I.list hs
    exact call_set_lst ns (I.ok.hd hc) pl.isList (by simpa using vals_ints rv) big fin
  · obtain ⟨its, rv, hl2, _⟩ := I.tuple hs
    exact call_set_tupI ns (I.ok.hd hc) hl2 (by simpa using vals_ints rv) big fin
def rLenSet (w : World) : List V → Hp → VK → Prop := fun vs H Q => ∃ (a : Addr) (S : Int → Bool) (n : Nat), vs = [V.ref a] ∧ H a = some (SetO w a S n) ∧ n ≤ 4000 ∧ Q (.int (n : Nat)) H
theorem cr_lenSet : CallR X (.builtin "len") (rLenSet X.w) := by
  intro pins s σ H vs us Q I r h
  obtain ⟨a, S, n, rfl, ha, hn, q⟩ := h
  rw [Vals.ref1 r]
  obtain ⟨o, es, ep, t, ho, hx, hd, g, nd2, hm2, hb, hf, hn2, _⟩ := setO_get I ha
  exact call_len_set ho hx hd hf (by rw [hn2]; omega) ⟨.int (n : Nat), H, I.tok _, ⟨_, by rw [hn2]⟩, q⟩
/-- set(e), a list or a tuple of ints -/
theorem set_step {a : Expr} {t : Bool} {ns : List Int} (h : RV X p a ρ r ρ1) (hv : Vw ρ1 r t (ns.map .int)) (hl : ns.length ≤ 4000) (p2 q : Pos) (hc : X.calm = true) (hm : X.mg "set" = none) (hg : Gl X "set")
    (he : starEach [a] X.env = (false, eval a X.env) :: starEach [] X.env) (hpl : (backTo q (starEach [] X.env)).any (·.1) = false) :
    ∃ t, PE X (.Call (.Name "set" p2) [a] [] q) t ∧ ∀ σ H B w, Rl X.K p.T p.φ B w H σ ρ → ∀ Q : VK, (∀ (b : Addr) (c : Nat) H' B' w', Stp p.T w B H w' B' H' → Rl X.K p.T p.φ B' w' H' σ ρ1 → H' b = some (SetO X.w b (fun j => decide (j ∈ ns)) c) → Many ns c → c ≤ ns.length → Q (.ref b) H') → t σ H Q := by
  obtain ⟨ta, pa, ea⟩ := h
  refine ⟨_, pe_callTy (cr_setI hc) hg hm (by decide +kernel) (pa_cons pa pa_nil he) (by decide) (by decide) he hpl, fun σ H B w F Q k => ea σ H B w F _ fun v H1 B1 w1 s1 F1 i1 => ?_⟩
  obtain ⟨l, us, rfl, sq, d⟩ := vw_ok F1 i1 hv
  obtain rfl := dpa_ints d
  refine ⟨l, ns, rfl, sq.any, hl, fun b c hb mn hc' => ?_⟩
  obtain ⟨s2, F2⟩ := new_both F1 hb (SetO X.w b (fun j => decide (j ∈ ns)) c) (fun ps z => by cases z)
  exact k b c _ _ _ (s1.trans s2) F2 upd_same mn hc'
/-- sorted(set(e)) -/
theorem rv_sortSet {a : Expr} {t : Bool} {ns out : List Int} {pp p2 q pos : Pos} (h : RV X p a ρ r ρ1) (hv : Vw ρ1 r t (ns.map .int)) (hl : ns.length ≤ 63) (ho : out.Pairwise (· < ·)) (hmem : ∀ k, k ∈ out ↔ k ∈ ns) (hms : X.mg "sorted" = none) (hm : X.mg "set" = none) (hc : X.calm = true := by rfl) (hgs : Gl X "sorted" := by rfl) (hg : Gl X "set" := by rfl)
    (he : starEach [a] X.env = (false, eval a X.env) :: starEach [] X.env := by rfl) (hpl : (backTo q (starEach [] X.env)).any (·.1) = false := by rfl)
    (he2 : starEach [.Call (.Name "set" p2) [a] [] q] X.env = (false, eval (.Call (.Name "set" p2) [a] [] q) X.env) :: starEach [] X.env := by rfl) (hpl2 : (backTo pos (starEach [] X.env)).any (·.1) = false := by rfl) :
    RV X p (.Call (.Name "sorted" pp) [.Call (.Name "set" p2) [a] [] q] [] pos) ρ (.li (out.map .int)) ρ1 := by
  obtain ⟨ts, ps, es⟩ := set_step h hv (by omega) p2 q hc hm hg he hpl
  refine ⟨_, pe_callB (cr_sortedSet hc) hgs hms (by decide +kernel) (pa_cons ps pa_nil he2) (by decide) (by decide) he2 hpl2, fun σ H B w F Q k => es σ H B w F _ fun b c H1 B1 w1 s1 F1 hb mn hc' => ?_⟩
  refine ⟨b, _, c, rfl, hb, by omega, fun ns2 l hs2 hm2 hl2 hn => ?_⟩
  have e : ns2 = out := by
    refine List.Perm.eq_of_pairwise (le := (· < ·)) (fun x y _ _ h1 h2 => by omega) hs2 ho ((List.perm_ext_iff_of_nodup (hs2.imp fun h => Int.ne_of_lt h) (ho.imp fun h => Int.ne_of_lt h)).mpr fun k => ?_)
    rw [hm2 k, decide_eq_true_eq, hmem]
  rw [e]
  obtain ⟨s2, F2, i2⟩ := new_lst (T := p.T) F1 hn (dpa_of_ints (K := X.K) (H := B1) out)
  exact k _ _ _ _ (s1.trans s2) F2 (i2.back s1)
/-- len(set(e)) -/
theorem rv_lenSet {a : Expr} {t : Bool} {ns out : List Int} {pp p2 q pos : Pos} (h : RV X p a ρ r ρ1) (hv : Vw ρ1 r t (ns.map .int)) (hl : ns.length ≤ 4000) (ho : out.Nodup) (hmem : ∀ k, k ∈ out ↔ k ∈ ns) (hms : X.mg "len" = none) (hm : X.mg "set" = none) (hc : X.calm = true := by rfl) (hgs : Gl X "len" := by rfl) (hg : Gl X "set" := by rfl)
    (he : starEach [a] X.env = (false, eval a X.env) :: starEach [] X.env := by rfl) (hpl : (backTo q (starEach [] X.env)).any (·.1) = false := by rfl)
    (he2 : starEach [.Call (.Name "set" p2) [a] [] q] X.env = (false, eval (.Call (.Name "set" p2) [a] [] q) X.env) :: starEach [] X.env := by rfl) (hpl2 : (backTo pos (starEach [] X.env)).any (·.1) = false := by rfl) :
    RV X p (.Call (.Name "len" pp) [.Call (.Name "set" p2) [a] [] q] [] pos) ρ (.da (.int (out.length : Int))) ρ1 := by
  obtain ⟨ts, ps, es⟩ := set_step h hv hl p2 q hc hm hg he hpl
  refine ⟨_, pe_callB cr_lenSet hgs hms (by decide +kernel) (pa_cons ps pa_nil he2) (by decide) (by decide) he2 hpl2, fun σ H B w F Q k => es σ H B w F _ fun b c H1 B1 w1 s1 F1 hb mn hc' => ?_⟩
  rw [mn out ho hmem] at *
  exact ⟨b, _, c, rfl, hb, by omega, k _ _ _ _ s1 F1 (.int _)⟩
end
end Dn

set_option Elab.async false
set_option linter.all false
set_option maxRecDepth 100000
set_option maxHeartbeats 2000000
namespace Dn
open PySem PySem.Spec PySem.Calls PyProof.Rows L2
section
variable {prog : Program} {w : World} {A : Around} {E : Value → Shared → Prop} {s : Shared} {a : Addr} {its : List Value} {ns : List Int} {Q : Value → Shared → Prop}
/-- what stands behind an iterator of a tuple -/
theorem tup_walked (hl : s.heap.IsTuple a its.toArray) {R : Value → Shared → Prop} (h : ∀ z : Shared, z = { s with heap := s.heap.push { cls := .type "tuple_iterator", data := .fields #[.ref a, .int 0 0] } } → a ≠ s.heap.objs.size →
      (z.heap.IsTupleIter s.heap.objs.size a 0 ∧ z.heap.IsTuple a its.toArray) → (∀ b ∈ [s.heap.objs.size, a], b < z.heap.objs.size) → R (.ref s.heap.objs.size) z) : wpAny (model prog w) A (pyIter (.ref a)) R E s := by
  have lt : a < s.heap.objs.size := by
    obtain ⟨o, e, _⟩ := id hl
    exact Heap.lt_size e
  refine wpAny_pyIter_tuple hl (h _ rfl (Nat.ne_of_lt lt) ⟨⟨_, Heap.get?_push_size _ rfl, rfl, rfl⟩, Heap.IsTuple.at hl fun o e => Heap.get?_push_of_some _ e⟩ fun b hb => ?_)
  show b < (s.heap.push _).objs.size
  rw [Heap.size_push]
  simp only [List.mem_cons, List.not_mem_nil, or_false] at hb
  rcases hb with rfl | rfl
  · exact Nat.lt_succ_self _
  · exact Nat.lt_succ_of_lt lt
theorem best_min (r : Vals (ns.map V.int) its) (hne : 0 < ns.length) : ∀ v, its.toArray[argBest (fun i j => decide (ns.getD i 0 < ns.getD j 0)) (its.toArray.size - 1)]? = some v → ∃ m t, v = .int m t ∧ m ∈ ns ∧ ∀ y ∈ ns, m ≤ y := fun v hv => by
  have hlen := r.length
  rw [List.length_map] at hlen
  obtain ⟨b1, b2⟩ := argBest_lt (fun i => ns.getD i 0) (its.toArray.size - 1)
  generalize argBest (fun i j => decide (ns.getD i 0 < ns.getD j 0)) (its.toArray.size - 1) = k at *
  obtain ⟨t, rfl⟩ := ints_at r (i := k) (by simpa using hv)
  have sz : its.toArray.size = ns.length := by simp; omega
  refine ⟨_, t, rfl, ?_, fun y hy => ?_⟩
  · rw [List.getD_eq_getElem?_getD, List.getElem?_eq_getElem (by omega)]
    exact List.getElem_mem _
  · obtain ⟨j, hj⟩ := List.getElem?_of_mem hy
    have jl := (List.getElem?_eq_some_iff.mp hj).1
    have := b2 j (by omega)
    rwa [List.getD_eq_getElem?_getD (l := ns) (i := j), hj] at this
theorem best_max (r : Vals (ns.map V.int) its) (hne : 0 < ns.length) : ∀ v, its.toArray[argBest (fun i j => decide (ns.getD i 0 > ns.getD j 0)) (its.toArray.size - 1)]? = some v → ∃ m t, v = .int m t ∧ m ∈ ns ∧ ∀ y ∈ ns, y ≤ m := fun v hv => by
  have hlen := r.length
  rw [List.length_map] at hlen
  obtain ⟨b1, b2⟩ := argBest_gt (fun i => ns.getD i 0) (its.toArray.size - 1)
  generalize argBest (fun i j => decide (ns.getD i 0 > ns.getD j 0)) (its.toArray.size - 1) = k at *
  obtain ⟨t, rfl⟩ := ints_at r (i := k) (by simpa using hv)
  have sz : its.toArray.size = ns.length := by simp; omega
  refine ⟨_, t, rfl, ?_, fun y hy => ?_⟩
  · rw [List.getD_eq_getElem?_getD, List.getElem?_eq_getElem (by omega)]
    exact List.getElem_mem _
  · obtain ⟨j, hj⟩ := List.getElem?_of_mem hy
    have jl := (List.getElem?_eq_some_iff.mp hj).1
    have := b2 j (by omega)
    rwa [List.getD_eq_getElem?_getD (l := ns) (i := j), hj] at this
theorem kept_behind {o0 : Obj} {h' : Heap} (hk : ∀ b o, b ∉ [s.heap.objs.size] → (s.heap.push o0).get? b = some o → h'.get? b = some o) : ∀ b o, s.heap.get? b = some o → h'.get? b = some o := fun b o e => by
  refine hk b o (fun hm => ?_) (Heap.get?_push_of_some _ e)
  rw [List.mem_singleton.mp hm] at e
  exact absurd (Heap.lt_size e) (Nat.lt_irrefl _)
theorem minT_raw (hh : A.handled = none) (hl : s.heap.IsTuple a its.toArray) (r : Vals (ns.map V.int) its) (hne : 0 < ns.length) (h : ∀ h' tk m t, (∀ b o, s.heap.get? b = some o → h'.get? b = some o) → m ∈ ns → (∀ y ∈ ns, m ≤ y) → Q (.int m t) { s with heap := h', toks := tk }) :
    wpAny (model prog w) A (call (.builtin "min") [.ref a]) Q E s := by
  refine call_min_walk (tup_walked hl fun z ez ne st fp => ?_)
  subst ez
  have sz : its.toArray.size = ns.length := by have := r.length; rw [List.length_map] at this; simp; omega
  refine ⟨_, _, _, _, _, _, _, rfl, Walks.tuple (A := A.in1) hh s.heap.objs.size a ne its.toArray, st, fp, by omega, CmpOf.ints_lt (fun i => ns.getD i 0) (fun i v hv => ints_at r (by simpa using hv)), fun v h' tk hP hk => ?_⟩
  obtain ⟨m, t, rfl, h1, h2⟩ := best_min r hne v hP
  exact h h' tk m t (kept_behind hk) h1 h2
theorem maxT_raw (hh : A.handled = none) (hl : s.heap.IsTuple a its.toArray) (r : Vals (ns.map V.int) its) (hne : 0 < ns.length) (h : ∀ h' tk m t, (∀ b o, s.heap.get? b = some o → h'.get? b = some o) → m ∈ ns → (∀ y ∈ ns, y ≤ m) → Q (.int m t) { s with heap := h', toks := tk }) :
    wpAny (model prog w) A (call (.builtin "max") [.ref a]) Q E s := by
  refine call_max_walk (tup_walked hl fun z ez ne st fp => ?_)
  subst ez
  have sz : its.toArray.size = ns.length := by have := r.length; rw [List.length_map] at this; simp; omega
  refine ⟨_, _, _, _, _, _, _, rfl, Walks.tuple (A := A.in1) hh s.heap.objs.size a ne its.toArray, st, fp, by omega, CmpOf.ints_gt (fun i => ns.getD i 0) (fun i v hv => ints_at r (by simpa using hv)), fun v h' tk hP hk => ?_⟩
  obtain ⟨m, t, rfl, h1, h2⟩ := best_max r hne v hP
  exact h h' tk m t (kept_behind hk) h1 h2
end
section
variable {X : Cx} {p : Pm} {ρ : Rho} {ns : List Int}
def rMinT (K : PySem.W.Frag) : List V → Hp → VK → Prop := fun vs H Q => ∃ (a : Addr) (ns : List Int), vs = [V.ref a] ∧ SqT K H a (ns.map V.int) ∧ 0 < ns.length ∧ ∀ m, m ∈ ns → (∀ y, y ∈ ns → m ≤ y) → Q (.int m) H
def rMaxT (K : PySem.W.Frag) : List V → Hp → VK → Prop := fun vs H Q => ∃ (a : Addr) (ns : List Int), vs = [V.ref a] ∧ SqT K H a (ns.map V.int) ∧ 0 < ns.length ∧ ∀ m, m ∈ ns → (∀ y, y ∈ ns → y ≤ m) → Q (.int m) H
theorem cr_minT (hc : X.calm = true) : CallR X (.builtin "min") (rMinT X.K) := by
  intro pins s σ H vs us Q I r h
  obtain ⟨a, ns, rfl, hs, hne, q⟩ := h
  obtain ⟨its, rv, hl, _⟩ := I.tuple hs
  rw [Vals.ref1 r]
  exact minT_raw (I.ok.hd hc) hl rv hne fun h' tk m t hk h1 h2 => ⟨.int m, H, I.kept hk, ⟨_, rfl⟩, q m h1 h2⟩
theorem cr_maxT (hc : X.calm = true) : CallR X (.builtin "max") (rMaxT X.K) := by
  intro pins s σ H vs us Q I r h
  obtain ⟨a, ns, rfl, hs, hne, q⟩ := h
  obtain ⟨its, rv, hl, _⟩ := I.tuple hs
  rw [Vals.ref1 r]
  exact maxT_raw (I.ok.hd hc) hl rv hne fun h' tk m t hk h1 h2 => ⟨.int m, H, I.kept hk, ⟨_, rfl⟩, q m h1 h2⟩
theorem cv_minT {m : Int} (hc : X.calm = true) (hm : m ∈ ns) (hb : ∀ y ∈ ns, m ≤ y) : CalV X p (.builtin "min") [.da (.tuple (ns.map .int))] ρ (.da (.int m)) :=
  cal_now (cr_minT hc) fun σ H B w vs H0 F i => by
    obtain ⟨v, rfl, i1⟩ := itvs1 i
    obtain ⟨l, us, rfl, sq, d⟩ := dp_tup i1
    obtain rfl := dpa_ints d
    exact ⟨_, .int _, fun Q q => ⟨l, ns, rfl, same_t F.ext sq, List.length_pos_of_mem hm, fun z h1 h2 => by rw [Int.le_antisymm (h2 m hm) (hb z h1)]; exact q⟩⟩
theorem cv_maxT {m : Int} (hc : X.calm = true) (hm : m ∈ ns) (hb : ∀ y ∈ ns, y ≤ m) : CalV X p (.builtin "max") [.da (.tuple (ns.map .int))] ρ (.da (.int m)) :=
  cal_now (cr_maxT hc) fun σ H B w vs H0 F i => by
    obtain ⟨v, rfl, i1⟩ := itvs1 i
    obtain ⟨l, us, rfl, sq, d⟩ := dp_tup i1
    obtain rfl := dpa_ints d
    exact ⟨_, .int _, fun Q q => ⟨l, ns, rfl, same_t F.ext sq, List.length_pos_of_mem hm, fun z h1 h2 => by rw [Int.le_antisymm (hb z h1) (h2 m hm)]; exact q⟩⟩
end
end Dn

set_option Elab.async false
set_option linter.all false
set_option maxRecDepth 100000
set_option maxHeartbeats 2000000
namespace Dn
open PySem PySem.Spec PySem.Calls PyProof.Rows L2
section
variable {J : It} {n : Nat} {G : Hp → Prop} {Y : Nat → Hp → V → Hp → Prop}
/-- a walk of n turns with any body -/
theorem walk_w (w : Walk J n G Y) (Pv : Nat → Hp → Prop) {H0 : Hp} (h0 : Pv 0 H0) (hG : ∀ i H, i ≤ n → Pv i H → G H) {Bd : V → Hp → (Hp → Prop) → Prop} {Qd : Hp → Prop} (hs : ∀ i x H H', i < n → Pv i H → Y i H x H' → Bd x H' (Pv (i + 1))) (hd : ∀ H, Pv n H → Qd H) :
    ∃ W : Nat → Nat → Hp → Prop, (∃ m, W 0 m H0) ∧ ∀ i m H, W i m H → (J.stop i H ∧ Qd H) ∨ (J.go i H ∧ ∃ Nx : Hp → Prop, (∀ H', Nx H' → ∃ m', m' < m ∧ W (i + 1) m' H') ∧ ∀ x H', J.yld i H x H' → Bd x H' Nx) := by
  refine ⟨fun i m H => m + i = n ∧ Pv i H, ⟨n, by omega, h0⟩, ?_⟩
  rintro i m H ⟨e, p⟩
  have g := hG i H (by omega) p
  by_cases hlt : i < n
  · exact .inr ⟨w.goes i H hlt g, Pv (i + 1), fun H' p' => ⟨m - 1, by omega, by omega, p'⟩, fun x H' y => hs i x H H' hlt p (w.yields i H x H' hlt g y)⟩
  · obtain rfl : i = n := by omega
    exact .inl ⟨w.stops H g, hd H p⟩
end
section
variable {X : Cx} {p : Pm} {ρ ρ1 : Rho} {K : PySem.W.Frag} {T : List (Addr × Str)} {φ : Nat → Option V} {w w1 : Addr → Option Nat} {B B1 H H1 : Hp} {σ : L2.St}
/-- a list that is being made gets one more -/
theorem lst_push {Dl : Addr} {us : List V} {vy : V} {zy : PyData} {acc : List PyData} (hD : H1 Dl = none) (st : Stp T w1 B1 H1 w B H) (F : Rl K T φ B w H σ ρ) (kw : w Dl = none) (kb : B Dl = none) (kh : H Dl = some (.lst us)) (du : DpAll K B us acc) (dy : Dp K B vy zy) :
    Stp T w1 B1 H1 w B (upd H Dl (.lst (us ++ [vy]))) ∧ Rl K T φ B w (upd H Dl (.lst (us ++ [vy]))) σ ρ ∧ (upd H Dl (.lst (us ++ [vy]))) Dl = some (.lst (us ++ [vy])) ∧ DpAll K B (us ++ [vy]) (acc ++ [zy]) := by
  have hlive : ∀ a, Live H a → Live (upd H Dl (.lst (us ++ [vy]))) a := fun a h => by
    by_cases ha : a = Dl
    · rw [ha]
      exact live_lst upd_same
    · obtain ⟨o, h, n⟩ := h
      exact ⟨o, by rw [upd_ne ha]; exact h, n⟩
  have htab : LamX.Tabs T H → LamX.Tabs T (upd H Dl (.lst (us ++ [vy]))) := by
    intro t pp hp
    obtain ⟨ps, q1, q2, q3⟩ := t pp hp
    refine ⟨ps, ?_, q2, fun pos cv hcv => ?_⟩
    · rw [upd_ne (fun e => by rw [e, kh] at q1; cases q1)]
      exact q1
    · obtain ⟨c, e1, e2⟩ := q3 pos cv hcv
      refine ⟨c, e1, ?_⟩
      rw [upd_ne (fun e => by rw [e, kh] at e2; cases e2)]
      exact e2
  refine ⟨⟨st.bb, fun a o h hw ho => ?_, fun a h => hlive a (st.th a h), st.nb, fun t => htab (st.tb t), st.nt, st.ww⟩, ⟨fun a u e => ?_, F.len, fun a h => hlive a (F.wok a h), htab F.tabs, F.nt, F.fix, F.dat, fun j z h => ?_, fun j z h => ?_⟩, upd_same, dpa_app du (.cons dy .nil)⟩
  · rw [upd_ne (ne_of_none h hD)]
    exact st.hh a o h hw ho
  · rw [upd_ne (fun z => by rw [z, kb] at e; cases e)]
    exact F.ext a u e
  · obtain ⟨m, us2, g1, g2, g3, g4, g5⟩ := F.own j z h
    exact ⟨m, us2, g1, g2, g3, by rw [upd_ne (fun e => by rw [e, kw] at g2; cases g2)]; exact g4, g5⟩
  · obtain ⟨m, us2, g1, g2, g3, g4, g5⟩ := F.obj j z h
    exact ⟨m, us2, g1, g2, g3, by rw [upd_ne (fun e => by rw [e, kw] at g2; cases g2)]; exact g4, g5⟩
def TIb (X : Cx) (scope : Scope) (tg e : Expr) : TI := fun σ H R => ∀ s Hb C cl fp, ∃ t, PI (Blk X scope s Hb C cl fp) tg e t ∧ t σ H R
theorem tib_ok {scope : Scope} {tg e : Expr} (s : Shared) (H : Hp) (C : Addr) (cl : List (Str × Addr)) (fp : List Addr) : PI (Blk X scope s H C cl fp) tg e (TIb X scope tg e) := ⟨fun pins s' σ H' R I h' => by
  obtain ⟨t, pt, ht⟩ := h' s H C cl fp
  exact pt.run pins s' σ H' R I ht⟩
theorem if_yes {c d : Prop} (h : c) : (if true = true then c else d) := by
  rw [if_pos rfl]
  exact h
/-- [elt for tg in iter for tg1 in iter1] -/
theorem rc_map2 {scope : Scope} {own : List (Str × Nat)} {tg iter tg1 iter1 elt : Expr} {pos : Pos} {xs : List PyData} (vs1 : List Nat) (ys : PyData → List PyData) (f : PyData → PyData → PyData) (hc : X.calm = true) (hN : X.N.Nodup) (h : IV X p tg iter ρ xs ρ1) (ok : BlkOk X.N X.env.scope scope own)
    (hv : ∀ i ∈ vs1, i ∈ own.map (·.2)) (h0 : wipeR ρ1 (own.map (·.2)) = ρ1) (hlen : (xs.flatMap fun x => (ys x).map (f x)).length ≤ 50000)
    (step : ∀ (i : Nat) (x : PyData), xs[i]? = some x → ∃ ρ' js, (∀ j ∈ js, j ∈ own.map (·.2)) ∧ (∀ s H C cl fp, GV (Blk X scope s H C cl fp) p tg x ρ1 ρ' js) ∧ ∃ ρ2, (∀ s H C cl fp, IV (Blk X scope s H C cl fp) p tg1 iter1 ρ' (ys x) ρ2) ∧ wipeR ρ2 vs1 = ρ2 ∧ Wk ρ2 ρ1 ∧
      ∀ (j : Nat) (y : PyData), (ys x)[j]? = some y → ∃ ρ3 js1, (∀ j ∈ js1, j ∈ vs1) ∧ (∀ s H C cl fp, GV (Blk X scope s H C cl fp) p tg1 y ρ2 ρ3 js1) ∧ ∃ ρ4, (∀ s H C cl fp, RV (Blk X scope s H C cl fp) p elt ρ3 (.da (f x y)) ρ4) ∧ Wk ρ4 ρ2)
    (hφ : ∀ j ∈ own.map (·.2), p.φ j = none := by exact fun _ _ => rfl) (hs : ∀ x, foldedSetIterable iter X.env x = pure x := by intro _; rfl) (hs1 : ∀ env x, foldedSetIterable iter1 env x = pure x := by intro _ _; rfl) :
    RC X p (.ListComp elt [⟨tg, iter, [], 0⟩, ⟨tg1, iter1, [], 0⟩] scope pos) ρ (.li (xs.flatMap fun x => (ys x).map (f x))) ρ1 := by
  obtain ⟨wi, pi, ei⟩ := h
  have hw : ∀ j, j ∈ own.map (·.2) → ∀ d, ρ1[j]? ≠ some (some d) := fun j hj d e => by
    rw [← h0] at e
    exact wipeR_none e hj
  refine ⟨_, pe_lc2 hc hN pi ok hv tgb_ok ttb_ok tib_ok tgb_ok ttb_ok teb_ok hs hs1, fun i y py spos hy hyl hsw => ps_setLc2 hc hN hy hyl hsw pi ok hv tgb_ok ttb_ok tib_ok tgb_ok ttb_ok teb_ok hs hs1, fun σ H B w F Q k => ei σ H B w F _ fun J H1 B1 w1 s1 F1 wd Dl hD => ?_⟩
  obtain ⟨G, Y, wk, hG, hY⟩ := wd
  have FW := F1.wipe hφ
  rw [h0] at FW
  obtain ⟨s0, F0, i0⟩ := new_lst (T := p.T) FW hD (.nil : DpAll X.K B1 [] [])
  have hb : ∀ i, ((xs.take i).flatMap fun x => (ys x).map (f x)).length ≤ 50000 := fun i => by
    refine Nat.le_trans ?_ hlen
    have := List.take_append_drop i xs
    rw [← this, List.flatMap_append, List.length_append, this]
    omega
  refine walk_w (Bd := fun x H' Nx => TGb X scope tg x (wipe σ (own.map (·.2))) H' fun σ2 H2 => wipe σ2 (own.map (·.2)) = wipe σ (own.map (·.2)) ∧ TTb X scope [] σ2 H2 fun b H3 =>
      if b = true then TIb X scope tg1 iter1 σ2 H3 fun J1 H4 => ∃ W1 : Nat → Nat → Hp → Prop, (∃ m, W1 0 m H4) ∧ ∀ j k H, W1 j k H →
        (J1.stop j H ∧ Nx H) ∨ (J1.go j H ∧ ∃ Nx1 : Hp → Prop, (∀ H', Nx1 H' → ∃ k', k' < k ∧ W1 (j + 1) k' H') ∧ ∀ x H', J1.yld j H x H' → TGb X scope tg1 x (wipe σ2 vs1) H' fun σ3 H5 => wipe σ3 vs1 = wipe σ2 vs1 ∧ TTb X scope [] σ3 H5 fun b H6 =>
          if b = true then TEb X scope elt σ3 H6 fun y H7 => ∃ acc, H7 Dl = some (.lst acc) ∧ acc.length < sizeLine ∧ Nx1 (upd H7 Dl (.lst (acc ++ [y]))) else Nx1 H6)
      else Nx H3) wk
    (fun i H2 => ∃ B2 w2 us, Stp p.T w1 B1 H1 w2 B2 H2 ∧ Rl X.K p.T p.φ B2 w2 H2 (L2.wipe σ (own.map (·.2))) ρ1 ∧ w2 Dl = none ∧ B2 Dl = none ∧ H2 Dl = some (.lst us) ∧ DpAll X.K B2 us ((xs.take i).flatMap fun x => (ys x).map (f x)))
    ⟨B1, w1, [], s0, F0, w_none F1 hD, same_none F1.ext hD, upd_same, .nil⟩ (fun i H2 hi ⟨B2, w2, us, s2, F2, _⟩ => hG B2 H2 s2.bb F2.ext) (fun i v H2 H3 hi ⟨B2, w2, us, s2, F2, wd, bd, hd, du⟩ y => ?_) (fun H2 ⟨B2, w2, us, s2, F2, wd, bd, hd, du⟩ => ?_)
  · obtain ⟨B3, x, hx, s3, F3, d3⟩ := walk_item (T := p.T) hY s2.bb F2 hi y
    obtain ⟨ρ', js, hjs, hg, ρ2, hiv, hw2, wk2, hin⟩ := step i x hx
    have ea : (xs.take (i + 1)).flatMap (fun x => (ys x).map (f x)) = (xs.take i).flatMap (fun x => (ys x).map (f x)) ++ (ys x).map (f x) := by
      rw [List.take_add_one, hx, List.flatMap_append]
      simp
    have hbl := hb (i + 1)
    rw [ea] at hbl
    have hw3 : ∀ j, j ∈ vs1 → ∀ d, ρ2[j]? ≠ some (some d) := fun j hj d e => by
      rw [← hw2] at e
      exact wipeR_none e hj
    intro s Hb C cl fp
    obtain ⟨g, pg, eg⟩ := hg s Hb C cl fp
    refine ⟨g, pg, eg _ H3 B3 w2 v F3 d3 _ fun σ4 F4 n4 => ⟨?_, ?_⟩⟩
    · exact wipe_eq (by rw [n4.1, wipe_length]) fun j hj => n4.2 j fun z => hj (hjs j z)
    · intro s' Hb' C' cl' fp'
      refine ⟨tYes, pts_nil, ?_⟩
      unfold tYes
      dsimp only
      rw [if_pos rfl]
      intro s5 Hb5 C5 cl5 fp5
      obtain ⟨wi1, pi1, ei1⟩ := hiv s5 Hb5 C5 cl5 fp5
      refine ⟨wi1, pi1, ei1 σ4 H3 B3 w2 F4 _ fun J1 H4 B4 w4 s4 F5 wd1 => ?_⟩
      obtain ⟨G1, Y1, wk1, hG1, hY1⟩ := wd1
      have FW1 := F5.wipe (js := vs1) fun j hj => hφ j (hv j hj)
      rw [hw2] at FW1
      have st34 := s3.trans s4
      refine walk_w (Bd := fun x H' Nx1 => TGb X scope tg1 x (wipe σ4 vs1) H' fun σ3 H5 => wipe σ3 vs1 = wipe σ4 vs1 ∧ TTb X scope [] σ3 H5 fun b H6 =>
          if b = true then TEb X scope elt σ3 H6 fun y H7 => ∃ acc, H7 Dl = some (.lst acc) ∧ acc.length < sizeLine ∧ Nx1 (upd H7 Dl (.lst (acc ++ [y]))) else Nx1 H6) wk1
        (fun j H2 => ∃ B5 w5 us5, Stp p.T w1 B1 H1 w5 B5 H2 ∧ Same B4 B5 ∧ Rl X.K p.T p.φ B5 w5 H2 (L2.wipe σ4 vs1) ρ2 ∧ w5 Dl = none ∧ B5 Dl = none ∧ H2 Dl = some (.lst us5) ∧ DpAll X.K B5 us5 ((xs.take i).flatMap (fun x => (ys x).map (f x)) ++ ((ys x).take j).map (f x)))
        ⟨B4, w4, us, s2.trans st34, fun _ _ z => z, FW1, st34.keepW (live_lst hd) wd, st34.nb Dl (live_lst hd) bd wd, st34.hh Dl _ hd wd (fun ps z => by cases z), by rw [List.take_zero, List.map_nil, List.append_nil]; exact dpa_mono st34.bb du⟩
        (fun j H6 hj ⟨B5, w5, us5, t1, t2, F6, _⟩ => hG1 B5 H6 t2 F6.ext) (fun j v1 H6 H7 hj ⟨B5, w5, us5, t1, t2, F6, k1, k2, k3, k4⟩ y1 => ?_) (fun H6 ⟨B5, w5, us5, t1, t2, F6, k1, k2, k3, k4⟩ => ?_)
      · obtain ⟨B6, yy, hyy, s6, F7, d7⟩ := walk_item (T := p.T) hY1 t2 F6 hj y1
        obtain ⟨ρ3, js1, hjs1, hg1, ρ4, hrv, wk4⟩ := hin j yy hyy
        intro s8 Hb8 C8 cl8 fp8
        obtain ⟨g1, pg1, eg1⟩ := hg1 s8 Hb8 C8 cl8 fp8
        refine ⟨g1, pg1, eg1 _ H7 B6 w5 v1 F7 d7 _ fun σ9 F9 n9 => ⟨?_, ?_⟩⟩
        · exact wipe_eq (by rw [n9.1, wipe_length]) fun j hj => n9.2 j fun z => hj (hjs1 j z)
        · intro s10 Hb10 C10 cl10 fp10
          refine ⟨tYes, pts_nil, ?_⟩
          unfold tYes
          dsimp only
          rw [if_pos rfl]
          intro s11 Hb11 C11 cl11 fp11
          obtain ⟨te, pte, ete⟩ := hrv s11 Hb11 C11 cl11 fp11
          refine ⟨te, pte, ete σ9 H7 B6 w5 F9 _ fun vy H8 B8 w8 s9 F10 dy => ?_⟩
          have st68 := s6.trans s9
          have FB : Rl X.K p.T p.φ B8 w8 H8 (L2.wipe σ4 vs1) ρ2 := (F10.weak wk4).slots n9.1.symm (fun j d hd => (n9.2 j fun z => hw3 j (hjs1 j z) d hd).symm) (fun j v hvv => (n9.2 j fun z => by rw [hφ j (hv j (hjs1 j z))] at hvv; cases hvv).symm)
          obtain ⟨p1, p2, p3, p4⟩ := lst_push hD (t1.trans st68) FB (st68.keepW (live_lst k3) k1) (st68.nb Dl (live_lst k3) k2 k1) (st68.hh Dl _ k3 k1 (fun ps z => by cases z)) (dpa_mono st68.bb k4) dy
          have hul := dpa_len k4
          refine ⟨us5, st68.hh Dl _ k3 k1 (fun ps z => by cases z), ?_, B8, w8, _, p1, t2.trans st68.bb, p2, st68.keepW (live_lst k3) k1, st68.nb Dl (live_lst k3) k2 k1, p3, ?_⟩
          · rw [hul, List.length_append, List.length_map, List.length_take]
            rw [List.length_append, List.length_map] at hbl
            have : (50000 : Nat) < sizeLine := by decide
            omega
          · rw [List.take_add_one, hyy, List.map_append, ← List.append_assoc]
            exact p4
      · rw [List.take_length] at k4
        rw [← ea] at k4
        refine ⟨B5, w5, us5, t1, (F6.weak wk2).slots (by rw [wipe_length, wipe_length, n4.1, wipe_length]) (fun j d hd => ?_) (fun j vv hvv => ?_), k1, k2, k3, k4⟩
        · have hj : j ∉ own.map (·.2) := fun z => hw j z d hd
          rw [wipe_at (js := vs1) fun z => hj (hv j z)]
          exact (n4.2 j fun z => hj (hjs j z)).symm
        · have hj : j ∉ own.map (·.2) := fun z => by rw [hφ j z] at hvv; cases hvv
          rw [wipe_at (js := vs1) fun z => hj (hv j z)]
          exact (n4.2 j fun z => hj (hjs j z)).symm
  · have F3 : Rl X.K p.T p.φ B2 w2 H2 σ ρ1 := F2.unwipe (fun i d hd hm => hw i hm d hd) hφ
    rw [List.take_length] at du
    exact k _ H2 B2 w2 (s1.trans s2) F3 ⟨Dl, us, rfl, fun z => not_live hD (s1.th Dl z), wd, bd, hd, du⟩
end
end Dn

set_option Elab.async false
set_option linter.all false
set_option maxRecDepth 100000
set_option maxHeartbeats 2000000
namespace PySem.W
open PySem PySem.Calls PyProof.Rows
section
variable {prog : Program} {w : World} {A : Around} {E : Value → Shared → Prop} {s : Shared} {vs : List Value} {ds : List PyData}
theorem keyLt_general (x y : Value) : keyLt' general' x y = oneLt' false x y := rfl
/-- one item or none is sorted as it is -/
theorem sorts_few (e : EachIs (fun v d => ∃ as, Reads s.heap v d as) vs ds) (hal : AllAlike ds) (h1 : ds.length ≤ 1) (hn : ∀ d ∈ ds, d ≠ .none) (hu : ∀ d, d ∈ ds → A.units + d.depth < cLine) : SortsAt prog w A s (dataKind s.heap ds) vs := by
  refine ⟨fun v hv => ?_, general', fun E x y a b Q ha hb hq => ?_, fun h2 => ?_⟩
  · obtain ⟨d, hd, as, r⟩ := e.left v hv
    exact ⟨_, dataKind_some hal hd r⟩
  · obtain ⟨d, as, hd, ra, rfl⟩ := dataKind_inv ha
    obtain ⟨d', as', hd', rb, rfl⟩ := dataKind_inv hb
    rw [keyLt_general]
    exact oneLt_alike (fun z => by cases z) ra rb (hal d hd d' hd') (hn d hd) (Nat.lt_of_le_of_lt (Nat.add_le_add_left (Nat.min_le_left _ _) _) (hu d hd)) hq
  · have := e.length
    omega
theorem sorts_any (e : EachIs (fun v d => ∃ as, Reads s.heap v d as) vs ds) (hal : AllAlike ds) (hk : Sortable ds ∨ ds.length ≤ 1 ∧ ∀ d ∈ ds, d ≠ .none) (hu : ∀ d, d ∈ ds → A.units + d.depth < cLine) : SortsAt prog w A s (dataKind s.heap ds) vs := by
  rcases hk with h | ⟨h, hn⟩
  · exact SortsAt.data e hal h hu
  · exact sorts_few e hal h hn hu
theorem sorted_any {β : Type} {bs : List β} {enc : β → PyData} {R : Value → β → Prop} {l : Addr} {Q : Value → Shared → Prop} (hl : s.heap.IsList l vs.toArray) (e : EachIs R vs bs) (er : EachIs (fun v b => ∃ as, Reads s.heap v (enc b) as) vs bs)
    (hal : AllAlike (bs.map enc)) (hk : Sortable (bs.map enc) ∨ (bs.map enc).length ≤ 1 ∧ ∀ d ∈ bs.map enc, d ≠ .none) (hL : bs.length ≤ sizeLine) (hu : ∀ b, b ∈ bs → A.units + 2 + (enc b).depth < cLine)
    (h : ∀ out, out.length = bs.length → EachIs R out (bs.mergeSort (dataLe false enc)) → Q (.ref (s.heap.objs.size + 1)) { s with heap := sortedAll s.heap vs (List.toArray out) }) : wpAny (model prog w) A (call (.builtin "sorted") [.ref l]) Q E s := by
  have behind : EachIs (fun v b => ∃ as, Reads (sortingHeap (copyHeap s.heap vs) (s.heap.objs.size + 1) vs) v (enc b) as) vs bs := er.mono fun _ _ z => by
    obtain ⟨as, r⟩ := z
    exact ⟨as, PyProof.Rows.Reads.keeps (fun _ _ => sorting_copy_old) r⟩
  have ready := sorts_any (prog := prog) (w := w) (A := A.in1.in1) (s := { s with heap := sortingHeap (copyHeap s.heap vs) (s.heap.objs.size + 1) vs }) (each_map (R := fun v d => ∃ as, Reads (sortingHeap (copyHeap s.heap vs) (s.heap.objs.size + 1) vs) v d as) enc behind) hal hk (bound_map hu)
  refine sorted_vals hl ready (by rw [e.length]; exact hL) (h _ ?_ (sortVals_data false e behind hal))
  rw [sortVals_length false rfl]
  exact e.length
end
end PySem.W
namespace Dn
open PySem PySem.Spec PySem.Calls PyProof.Rows L2
section
variable {X : Cx} {p : Pm} {ρ ρ1 : Rho} {r : Rs}
/-- sorted(l), l a list of alike data -/
def rSortD (K : PySem.W.Frag) : List V → Hp → VK → Prop := fun vs H Q => ∃ (a : Addr) (ps : List (V × PyData)), vs = [V.ref a] ∧ SqL K H a (ps.map (·.1)) ∧ (∀ q ∈ ps, Dp K H q.1 q.2) ∧ PySem.W.AllAlike (ps.map (·.2)) ∧
  (PySem.W.Sortable (ps.map (·.2)) ∨ (ps.map (·.2)).length ≤ 1 ∧ ∀ d ∈ ps.map (·.2), d ≠ .none) ∧ ps.length ≤ 50000 ∧ (∀ q ∈ ps, q.2.depth ≤ 50) ∧ ∀ b, H b = none → Q (.ref b) (upd H b (.lst ((ps.mergeSort (PySem.W.dataLe false (·.2))).map (·.1))))
theorem each_pairs {pins : List (Addr × Obj)} {σ : L2.St} {H : Hp} {s : Shared} (I : Inv X pins σ H s) : ∀ {ps : List (V × PyData)} {us : List Value}, Vals (ps.map (·.1)) us → (∀ q ∈ ps, Dp X.K H q.1 q.2) → PySem.W.EachIs (fun v (q : V × PyData) => RelV q.1 v) us ps ∧ PySem.W.EachIs (fun v (q : V × PyData) => ∃ as, Reads s.heap v q.2 as) us ps
  | [], _, .nil, _ => ⟨.nil, .nil⟩
  | q :: ps, _ :: _, .cons h t, hd => by
    obtain ⟨a, b⟩ := each_pairs I t fun x hx => hd x (.tail _ hx)
    exact ⟨.cons h a, .cons (Dp.reads I q.2 q.1 _ (hd q (.head _)) h) b⟩
theorem vals_each : ∀ {ps : List (V × PyData)} {us : List Value}, PySem.W.EachIs (fun v (q : V × PyData) => RelV q.1 v) us ps → Vals (ps.map (·.1)) us
  | _, _, .nil => .nil
  | _, _, .cons h t => .cons h (vals_each t)
theorem cr_sortD (hc : X.calm = true) (hu : X.A.units + 64 < cLine) : CallR X (.builtin "sorted") (rSortD X.K) := by
  intro pins s σ H vs us Q I rv h
  obtain ⟨a, ps, rfl, hs, hd, hal, hk, hL, hdep, q⟩ := h
  obtain ⟨its, r2, hl, hz⟩ := I.list hs
  rw [Vals.ref1 rv]
  obtain ⟨e1, e2⟩ := each_pairs I r2 hd
  refine PySem.W.sorted_any (enc := fun q : V × PyData => q.2) hl.isList e1 e2 hal hk (by rw [sizeLine_eq]; omega) (fun b hb => by have := hdep b hb; omega) fun out ho eo => ?_
  obtain ⟨ep, he⟩ := PyProof.Rows.sortedAll_at s.heap its (List.toArray out)
  have hlen : ((ps.mergeSort (PySem.W.dataLe false (fun q : V × PyData => q.2))).map (·.1)).length ≤ sizeLine := by
    rw [List.length_map, List.length_mergeSort, sizeLine_eq]
    omega
  exact ⟨.ref _, upd H (s.heap.objs.size + 1) (.lst ((ps.mergeSort (PySem.W.dataLe false (fun q : V × PyData => q.2))).map (·.1))), I.laid (t' := s.toks) (fun _ _ => PyProof.Rows.sortedAll_old) (Nat.le_succ _) ⟨hlen, out, ep, vals_each eo, he⟩, rfl, q _ (I.hok.fresh (Nat.le_succ _))⟩
theorem zip_fst : ∀ {us : List V} {ds : List PyData} {B : Hp} {K : PySem.W.Frag}, DpAll K B us ds → (us.zip ds).map (·.1) = us ∧ (us.zip ds).map (·.2) = ds ∧ ∀ q ∈ us.zip ds, Dp K B q.1 q.2
  | _, _, _, _, .nil => ⟨rfl, rfl, fun _ h => by cases h⟩
  | u :: us, d :: ds, _, _, .cons h t => by
    obtain ⟨a, b, c⟩ := zip_fst t
    refine ⟨congrArg (u :: ·) a, congrArg (d :: ·) b, fun q hq => ?_⟩
    rcases List.mem_cons.mp hq with rfl | hq
    · exact h
    · exact c q hq
theorem dpa_of_mem {K : PySem.W.Frag} {B : Hp} : ∀ {ps : List (V × PyData)}, (∀ q ∈ ps, Dp K B q.1 q.2) → DpAll K B (ps.map (·.1)) (ps.map (·.2))
  | [], _ => .nil
  | q :: ps, h => .cons (h q (.head _)) (dpa_of_mem fun x hx => h x (.tail _ hx))
/-- sorted(e), alike data -/
theorem cv_sortD {ds : List PyData} (hc : X.calm = true) (hu : X.A.units + 64 < cLine) (hv : Vw ρ r false ds) (hal : PySem.W.AllAlike ds) (hk : PySem.W.Sortable ds ∨ ds.length ≤ 1 ∧ ∀ d ∈ ds, d ≠ .none) (hL : ds.length ≤ 50000) (hdep : ∀ d ∈ ds, d.depth ≤ 50) :
    CalV X p (.builtin "sorted") [r] ρ (.li (ds.mergeSort (PySem.W.dataLe false id))) :=
  ⟨_, cr_sortD hc hu, fun σ H B w vs H0 F i Q k => by
    obtain ⟨v, rfl, i1⟩ := itvs1 i
    obtain ⟨l, us, rfl, sq, d⟩ := vw_ok F i1 hv
    obtain ⟨z1, z2, z3⟩ := zip_fst d
    have len : (us.zip ds).length = ds.length := by
      have := congrArg List.length z2
      rwa [List.length_map] at this
    refine ⟨l, us.zip ds, rfl, by rw [z1]; exact sq, fun q hq => dp_mono F.ext (z3 q hq), by rw [z2]; exact hal, by rw [z2]; exact hk, by omega, fun q hq => ?_, fun b hb => ?_⟩
    · refine hdep _ ?_
      rw [← z2]
      exact List.mem_map_of_mem hq
    · have dm := dpa_of_mem (ps := (us.zip ds).mergeSort (PySem.W.dataLe false (fun q : V × PyData => q.2))) fun q hq => z3 q (List.mem_mergeSort.mp hq)
      have em : ((us.zip ds).mergeSort (PySem.W.dataLe false (fun q : V × PyData => q.2))).map (·.2) = ds.mergeSort (PySem.W.dataLe false id) := by
        have := List.map_mergeSort (f := fun q : V × PyData => q.2) (r := PySem.W.dataLe false (fun q : V × PyData => q.2)) (s := PySem.W.dataLe false id) (l := us.zip ds) (fun a _ b _ => rfl)
        rw [this, z2]
      rw [em] at dm
      obtain ⟨s2, F2, i2⟩ := new_lst (T := p.T) F hb dm
      exact k _ _ _ _ s2 F2 i2⟩
end
end Dn

set_option Elab.async false
set_option linter.all false
set_option maxRecDepth 100000
set_option maxHeartbeats 2000000
namespace Dn
open PySem PySem.Spec PySem.Calls PyProof.Rows L2
section
variable {X : Cx} {p : Pm} {er : Er} {ρ ρ1 ρ2 : Rho} {e : Expr} {n : Str} {pos pos' : Pos}
/-- n *= e, ints -/
theorem rs_augM (i : Nat) {k m : Int} (h : RV X p e ρ (.da (.int m)) ρ1) (hm : CMul k m) (hρ : ρ[i]? = some (dd (.int k))) (hN : X.N.Nodup) (hi : X.N[i]? = some n := by rfl) (hx : Loc X.env.scope n := by first | exact Or.inl rfl | exact Or.inr rfl) (hφ : p.φ i = none := by rfl)
    (hf : X.fn n = true ∨ X.env.scope.names.lookup n = some .local := by first | exact .inl rfl | exact .inr rfl) (hE : ρ2 = ρ1.set i (dd (.int (k * m))) := by rfl) : RS X p er (.AugAssign (.Name n pos') .Mult e pos) ρ (.nx ρ2) := by
  subst hE
  obtain ⟨te, pe, ee⟩ := h
  refine ⟨_, ps_aug hN hi hx pe iop_mul hf, fun σ H B w F D k0 => ?_⟩
  obtain ⟨v, h1, h2⟩ := F.dat i _ hρ
  exact ⟨v, h1, ee σ H B w F _ fun v2 H1 B1 w1 s1 F1 i1 => ⟨k, m, dp_int h2, dp_int i1, hm, k0 _ H1 B1 w1 s1 (rl_set F1 hφ (.int _))⟩⟩
/-- sorted order of tuples of ints -/
theorem dataLe_tups {β : Type} (x : β → List Int) : PySem.W.dataLe false (fun b => .tuple ((x b).map .int)) = fun p q => decide (x p ≤ x q) := by
  funext p q
  have h := congrFun (congrFun (PySem.W.dataLe_rows x) p) q
  have e : PySem.W.dataLe false (fun b => PyData.tuple ((x b).map .int)) p q = PySem.W.dataLe false (fun b => PyData.list ((x b).map .int)) p q := by
    rw [PySem.W.dataLe_eq, PySem.W.dataLe_eq]
    show (!PySem.W.dataLt (.tuple _) (.tuple _)) = (!PySem.W.dataLt (.list _) (.list _))
    rw [PySem.W.dataLt_tuple, PySem.W.dataLt_list]
  rw [e]
  exact h
/-- ints of a slice -/
theorem cutA_map {α β : Type} (f : α → β) (xs : List α) (lo hi : Option Int) : cutA (xs.map f) lo hi = (cutA xs lo hi).map f := by
  unfold cutA
  rw [List.length_map, List.map_take, List.map_drop]
end
end Dn

set_option Elab.async false
set_option linter.all false
set_option maxRecDepth 100000
set_option maxHeartbeats 4000000
namespace Gz
open PySem PySem.Spec PyProof.Rows L2
/-- a tuple, no times: the empty one -/
theorem tup_none (l : Addr) (its : Array Value) (n : Nat) (u : Tok) (dd : Option Addr) (sl : Array (Option Value)) (hne : its.isEmpty = false) : Meets (Builtin.«tuple.__mul__» ⟨[.ref l, .int 0 u], []⟩) (fun _ R s => s.heap.get? l = some { cls := .type "tuple", dict := dd, data := .seq its n, slots := sl } ∧
    R (.ok (.ret (Value.ref s.heap.objs.size))) { s with heap := s.heap.push { cls := Value.type "tuple", data := Data.seq #[] }, toks := s.toks }) :=
  .of_wp fun prog w A R s h => by
    obtain ⟨hp, g, d, tk, os⟩ := s
    obtain ⟨hl, h⟩ := h
    have f1 := AutoSeq1.idx_int
    have c0 : (decide ((0 : Int) < -(2 ^ 63)) || decide ((0 : Int) ≥ 2 ^ 63)) = false := by decide
    have c1 : (its.isEmpty || (0 : Int) == 1) = false := by rw [hne]; rfl
    have c2 : (decide ((0 : Int) ≤ 0) || its.isEmpty) = true := rfl
    wp_walk using wpAny_loadPart' hl
    repeat (first
      | (refine wpAny_ite_false (decide_eq_false (by rw [c0]; exact Bool.false_ne_true)) ?_; wp_walk using wpAny_loadPart' hl)
      | (refine wpAny_ite_false (decide_eq_false (by rw [c1]; exact Bool.false_ne_true)) ?_; wp_walk using wpAny_loadPart' hl)
      | (refine wpAny_ite_true (decide_eq_true c2) ?_; wp_walk using wpAny_loadPart' hl))
    exact ⟨_, rfl, h⟩
def rNil (K : PySem.W.Frag) : R2 := fun x y H Q => ∃ (l : Addr) (xs : List V), x = .ref l ∧ y = .int 0 ∧ SqT K H l xs ∧ xs ≠ [] ∧ ∀ p, H p = none → Q (.ref p) (upd H p (.tup []))
theorem op_nil {X : Cx} : OpR X (binaryOp .Mult) (rNil X.K) := by
  intro pins s σ H x y v u Q I rx ry h
  obtain ⟨l, xs, rfl, rfl, hT, hne, q⟩ := h
  cases rx
  obtain ⟨t, rfl⟩ := ry
  obtain ⟨its, r, ⟨⟨cls, dd, data, sl⟩, ho, hc, n, hd⟩, hs⟩ := I.tuple hT
  simp only at hc hd
  subst hc hd
  have he : its.toArray.isEmpty = false := by
    have hle := r.length
    cases its with
    | nil => exact absurd (List.eq_nil_of_length_eq_zero hle) hne
    | cons a b => rfl
  have fin : EP X pins σ Q (Value.ref s.heap.objs.size) { s with heap := s.heap.push { cls := Value.type "tuple", data := Data.seq #[] }, toks := s.toks } := by
    refine ⟨.ref s.heap.objs.size, upd H s.heap.objs.size (.tup []), I.laid (t' := s.toks) (fun b u e => Heap.get?_push_of_some _ e) (Nat.le_refl _) ?_, rfl, q _ (I.hok.fresh (Nat.le_refl _))⟩
    exact ⟨by decide, [], .nil, ⟨_, Heap.get?_push_size _ rfl, rfl, 0, rfl⟩⟩
  exact wpAny_binaryOp_repeat_ref (T := "tuple") (U := "int") (by decide) ⟨_, ho, rfl⟩ (fun s' => typeIs_int s' 0 t) noFill_tuple_mul F.fills_int_mul F.slot_int_rmul repeat_tuple F.slot_int_index.lookup
    (call_meets F.slot_int_rmul (typeIs_int s 0 t) F.entry_int_rmul (F.args_int_rmul_2 _ _) (int_rmul_tuple 0 t l its.toArray n dd sl) ⟨ho, rfl, ⟨_, ho, rfl⟩, call_meets F.slot_tuple_mul ⟨_, ho, rfl⟩ F.entry_tuple_mul (F.args_tuple_mul_2 _ _) (tup_none l its.toArray n t dd sl he) ⟨ho, fin⟩⟩)
end Gz
namespace Dn
open PySem PySem.Spec PyProof.Rows L2 Gz
section
variable {X : Cx} {p : Pm} {ρ : Rho} {xs : List PyData}
theorem ov_mulT0 {k : Int} (h0 : xs ≠ []) (h1 : 0 ≤ k) (hk : k ≤ 1000) (hl : xs.length ≤ 1000) : OpV X p (binaryOp .Mult) (.da (.tuple xs)) (.da (.int k)) ρ (.da (.tuple (List.replicate k.toNat xs).flatten)) := by
  by_cases h : k = 0
  · subst h
    refine ⟨_, op_nil, fun σ H B w x y H0 F s ia ib Q kk => ?_⟩
    obtain ⟨l, us, rfl, sq, d⟩ := dp_tup ia
    refine ⟨l, us, rfl, dp_int ib, same_t F.ext sq, fun z => ?_, fun q hq => ?_⟩
    · have e := dpa_len d
      rw [z] at e
      exact h0 (List.eq_nil_of_length_eq_zero e.symm)
    · obtain ⟨s4, F4, i4⟩ := new_tup (T := p.T) F hq (.nil : DpAll X.K B [] [])
      exact kk _ _ _ _ s4 F4 i4
  · exact ov_mulT h0 (by omega) hk hl
end
end Dn

set_option Elab.async false
set_option linter.all false
set_option maxRecDepth 100000
set_option maxHeartbeats 2000000
/-! steps from place to place that tell how much more there is at least: the plain law of solved() -/
namespace Bf
open PySem
structure St where
  nm : PyData
  b : Nat
  e : Nat
  m : Int
structure BS where
  su : List (Option Int)
  la : List (Option St)
  ch : Option Nat
theorem getD_set {α : Type} {l : List (Option α)} {i j : Nat} {v : Option α} : (l.set i v).getD j none = if i = j ∧ i < l.length then v else l.getD j none := by
  rw [List.getD_eq_getElem?_getD, List.getElem?_set]
  by_cases e : i = j
  · subst e
    by_cases h : i < l.length
    · simp [h]
    · simp [h]
  · simp [e]
/-- whether a step tells more than is known -/
def more (s : BS) (st : St) : Bool := match s.su.getD st.b none with
  | none => false
  | some x => match s.su.getD st.e none with
    | none => true
    | some y => decide (y < x + st.m)
def relax (s : BS) (st : St) : BS := match s.su.getD st.b none with
  | none => s
  | some x => if more s st = true then ⟨s.su.set st.e (some (x + st.m)), s.la.set st.e (some st), some st.e⟩ else s
def pass (steps : List St) (s : BS) : BS := steps.foldl relax { s with ch := none }
def bs0 (n : Nat) : BS := ⟨some 0 :: List.replicate (n - 1) none, List.replicate n none, none⟩
def rnd (steps : List St) (n : Nat) : Nat → BS
  | 0 => bs0 n
  | t + 1 => pass steps (rnd steps n t)
def Pot (steps : List St) (y : Nat → Int) : Prop := ∀ st ∈ steps, y st.b + st.m ≤ y st.e
structure Ok (steps : List St) (n : Nat) : Prop where
  n0 : 0 < n
  b : ∀ st ∈ steps, st.b < n
  e : ∀ st ∈ steps, st.e < n
structure Inv (steps : List St) (n t j : Nat) (s : BS) (τ T : Nat → Nat) (clk : Nat) : Prop where
  l1 : s.su.length = n
  l2 : s.la.length = n
  s0 : ∃ x, s.su.getD 0 none = some x ∧ 0 ≤ x
  D : ∀ k st, steps[k]? = some st → ∀ x, s.su.getD st.b none = some x → (∃ y, s.su.getD st.e none = some y ∧ x + st.m ≤ y) ∨ (if k < j then t + 1 else t) ≤ τ st.b
  L : ∀ v st, s.la.getD v none = some st → st ∈ steps ∧ st.e = v ∧ τ v ≤ τ st.b + 1 ∧ 1 ≤ T v ∧ ∃ x y, s.su.getD st.b none = some x ∧ s.su.getD v none = some y ∧ y ≤ x + st.m ∧ (T v < T st.b ∨ st.b = v → y < x + st.m)
  N : ∀ v, 1 ≤ τ v → ∃ st, s.la.getD v none = some st
  T1 : ∀ v, T v ≤ clk
  T2 : ∀ v u, 1 ≤ T v → T v = T u → v = u
  t1 : ∀ v, τ v ≤ t + 1
  c1 : ∀ v, s.ch = some v → τ v = t + 1
  c2 : s.ch = none → ∀ v, τ v ≤ t
  P : ∀ y : Nat → Int, Pot steps y → ∀ v x, s.su.getD v none = some x → x ≤ y v - y 0
section
variable {steps : List St} {n t j : Nat} {s : BS} {τ T : Nat → Nat} {clk : Nat}
theorem inv0 (h : 0 < n) : Inv steps n 0 0 (bs0 n) (fun _ => 0) (fun _ => 0) 0 := by
  have e0 : ∀ v, (bs0 n).su.getD v none = if v = 0 then some 0 else none := fun v => by
    show (some (0 : Int) :: List.replicate (n - 1) none).getD v none = _
    cases v with
    | zero => rfl
    | succ v =>
      show (List.replicate (n - 1) (none : Option Int)).getD v none = _
      rw [if_neg (by omega), List.getD_eq_getElem?_getD, List.getElem?_replicate]
      split <;> rfl
  have e1 : ∀ v, (bs0 n).la.getD v none = none := fun v => by
    show (List.replicate n (none : Option St)).getD v none = none
    rw [List.getD_eq_getElem?_getD, List.getElem?_replicate]
    split <;> rfl
  refine ⟨?_, List.length_replicate, ⟨0, by rw [e0, if_pos rfl], Int.le_refl _⟩, fun k st _ x _ => .inr (by split <;> omega), fun v st h => ?_, fun v h => by omega, fun _ => Nat.le_refl _, fun _ _ h => by omega, fun _ => by omega, fun v h => ?_, fun _ _ => Nat.le_refl _, fun y _ v x h => ?_⟩
  · show (some (0 : Int) :: List.replicate (n - 1) none).length = n
    rw [List.length_cons, List.length_replicate]
    omega
  · rw [e1] at h
    cases h
  · cases h
  · rw [e0] at h
    split at h
    · rename_i hv
      cases h
      rw [hv]
      omega
    · cases h
theorem inv_relax (ok : Ok steps n) {st : St} (hj : steps[j]? = some st) (I : Inv steps n t j s τ T clk) : ∃ τ' T' clk', Inv steps n t (j + 1) (relax s st) τ' T' clk' := by
  have hm := List.mem_of_getElem? hj
  have hb := ok.b st hm
  have he := ok.e st hm
  have keep : (∀ x, s.su.getD st.b none = some x → ∃ y, s.su.getD st.e none = some y ∧ x + st.m ≤ y) → Inv steps n t (j + 1) s τ T clk := fun h => by
    refine ⟨I.l1, I.l2, I.s0, fun k st2 hk x hx => ?_, I.L, I.N, I.T1, I.T2, I.t1, I.c1, I.c2, I.P⟩
    by_cases e : k = j
    · subst e
      rw [hj] at hk
      cases hk
      exact .inl (h x hx)
    · rcases I.D k st2 hk x hx with h1 | h1
      · exact .inl h1
      · refine .inr ?_
        by_cases kj : k < j
        · rw [if_pos kj] at h1
          rw [if_pos (by omega)]
          exact h1
        · rw [if_neg kj] at h1
          rw [if_neg (by omega)]
          exact h1
  unfold relax
  cases hsb : s.su.getD st.b none with
  | none => exact ⟨τ, T, clk, keep fun x hx => by rw [hsb] at hx; cases hx⟩
  | some x =>
    show ∃ τ' T' clk', Inv steps n t (j + 1) (if more s st = true then _ else s) τ' T' clk'
    by_cases hmo : more s st = true
    · rw [if_pos hmo]
      -- what stood at the end before
      have hold : ∀ y, s.su.getD st.e none = some y → y < x + st.m := fun y hy => by
        unfold more at hmo
        rw [hsb] at hmo
        simp only [hy] at hmo
        exact of_decide_eq_true hmo
      have hτ : t ≤ τ st.b := by
        rcases I.D j st hj x hsb with ⟨y, hy, hle⟩ | h
        · have := hold y hy
          omega
        · rwa [if_neg (by omega)] at h
      have eS : ∀ v, (s.su.set st.e (some (x + st.m))).getD v none = if v = st.e then some (x + st.m) else s.su.getD v none := fun v => by
        rw [getD_set]
        by_cases e : v = st.e
        · rw [if_pos ⟨e.symm, by rw [I.l1]; exact he⟩, if_pos e]
        · rw [if_neg (fun z => e z.1.symm), if_neg e]
      have eL : ∀ v, (s.la.set st.e (some st)).getD v none = if v = st.e then some st else s.la.getD v none := fun v => by
        rw [getD_set]
        by_cases e : v = st.e
        · rw [if_pos ⟨e.symm, by rw [I.l2]; exact he⟩, if_pos e]
        · rw [if_neg (fun z => e z.1.symm), if_neg e]
      refine ⟨fun v => if v = st.e then t + 1 else τ v, fun v => if v = st.e then clk + 1 else T v, clk + 1, ⟨by show (s.su.set _ _).length = n; rw [List.length_set]; exact I.l1, by show (s.la.set _ _).length = n; rw [List.length_set]; exact I.l2, ?_, fun k st2 hk x2 hx2 => ?_, fun v st2 hv => ?_, fun v hv => ?_, fun v => ?_, fun v u hv huv => ?_, fun v => ?_, fun v hv => ?_, fun h => (by cases h), fun y hy v x2 hx2 => ?_⟩⟩
      · obtain ⟨x0, h0, h1⟩ := I.s0
        show ∃ x1, (s.su.set st.e (some (x + st.m))).getD 0 none = some x1 ∧ 0 ≤ x1
        rw [eS]
        by_cases e : 0 = st.e
        · rw [if_pos e]
          have := hold x0 (by rw [← e]; exact h0)
          exact ⟨_, rfl, by omega⟩
        · rw [if_neg e]
          exact ⟨x0, h0, h1⟩
      · have hx2 : (s.su.set st.e (some (x + st.m))).getD st2.b none = some x2 := hx2
        show (∃ y, (s.su.set st.e (some (x + st.m))).getD st2.e none = some y ∧ x2 + st2.m ≤ y) ∨ (if k < j + 1 then t + 1 else t) ≤ (if st2.b = st.e then t + 1 else τ st2.b)
        rw [eS] at hx2 ⊢
        by_cases e : st2.b = st.e
        · rw [if_pos e]
          exact .inr (by split <;> omega)
        · rw [if_neg e] at hx2 ⊢
          by_cases ekj : k = j
          · subst ekj
            rw [hj] at hk
            cases hk
            rw [hsb] at hx2
            cases hx2
            rw [if_pos rfl]
            exact .inl ⟨_, rfl, Int.le_refl _⟩
          · rcases I.D k st2 hk x2 hx2 with ⟨y, hy, hle⟩ | h
            · refine .inl ?_
              by_cases e2 : st2.e = st.e
              · rw [if_pos e2]
                have := hold y (by rw [← e2]; exact hy)
                exact ⟨_, rfl, by omega⟩
              · rw [if_neg e2]
                exact ⟨y, hy, hle⟩
            · refine .inr ?_
              by_cases kj : k < j
              · rw [if_pos kj] at h
                rw [if_pos (by omega)]
                exact h
              · rw [if_neg kj] at h
                rw [if_neg (by omega)]
                exact h
      · have hv : (s.la.set st.e (some st)).getD v none = some st2 := hv
        show st2 ∈ steps ∧ st2.e = v ∧ (if v = st.e then t + 1 else τ v) ≤ (if st2.b = st.e then t + 1 else τ st2.b) + 1 ∧ 1 ≤ (if v = st.e then clk + 1 else T v) ∧ ∃ x y, (s.su.set st.e (some (_ + st.m))).getD st2.b none = some x ∧ (s.su.set st.e (some (_ + st.m))).getD v none = some y ∧ y ≤ x + st2.m ∧ ((if v = st.e then clk + 1 else T v) < (if st2.b = st.e then clk + 1 else T st2.b) ∨ st2.b = v → y < x + st2.m)
        rw [eL] at hv
        rw [eS, eS]
        by_cases e : v = st.e
        · rw [if_pos e] at hv
          cases hv
          by_cases hne : st.b = st.e
          · have hx2 := hold x (by rw [← hne]; exact hsb)
            rw [if_pos e, if_pos e, if_pos hne, if_pos hne, if_pos hne, if_pos e]
            exact ⟨hm, e.symm, by omega, by omega, _, _, rfl, rfl, by omega, fun _ => by omega⟩
          · rw [if_pos e, if_pos e, if_neg hne, if_neg hne, if_neg hne, if_pos e]
            refine ⟨hm, e.symm, by omega, by omega, x, _, hsb, rfl, Int.le_refl _, fun z => ?_⟩
            rcases z with z | z
            · have := I.T1 st.b
              omega
            · exact absurd (z.trans e) hne
        · rw [if_neg e] at hv
          obtain ⟨h1, h2, h3, h4, x2, y2, g1, g2, g3, g4⟩ := I.L v st2 hv
          rw [if_neg e, if_neg e, if_neg e]
          have h5 := I.t1 st2.b
          refine ⟨h1, h2, by have := I.t1 v; split <;> omega, h4, ?_⟩
          by_cases eb : st2.b = st.e
          · rw [if_pos eb]
            have := hold x2 (by rw [← eb]; exact g1)
            exact ⟨_, y2, rfl, g2, by omega, fun _ => by omega⟩
          · rw [if_neg eb, if_neg eb]
            exact ⟨x2, y2, g1, g2, g3, g4⟩
      · show ∃ st2, (s.la.set st.e (some st)).getD v none = some st2
        rw [eL]
        have hv : 1 ≤ (if v = st.e then t + 1 else τ v) := hv
        by_cases e : v = st.e
        · rw [if_pos e]
          exact ⟨_, rfl⟩
        · rw [if_neg e] at hv ⊢
          exact I.N v hv
      · show (if v = st.e then clk + 1 else T v) ≤ clk + 1
        have := I.T1 v
        split <;> omega
      · have hv : 1 ≤ (if v = st.e then clk + 1 else T v) := hv
        have huv : (if v = st.e then clk + 1 else T v) = (if u = st.e then clk + 1 else T u) := huv
        have a := I.T1 v
        have b := I.T1 u
        by_cases e1 : v = st.e
        · by_cases e2 : u = st.e
          · rw [e1, e2]
          · rw [if_pos e1, if_neg e2] at huv
            omega
        · by_cases e2 : u = st.e
          · rw [if_neg e1, if_pos e2] at huv
            omega
          · rw [if_neg e1, if_neg e2] at huv
            rw [if_neg e1] at hv
            exact I.T2 v u hv huv
      · show (if v = st.e then t + 1 else τ v) ≤ t + 1
        have := I.t1 v
        split <;> omega
      · cases hv
        show (if st.e = st.e then t + 1 else τ st.e) = t + 1
        rw [if_pos rfl]
      · have hx2 : (s.su.set st.e (some (x + st.m))).getD v none = some x2 := hx2
        rw [eS] at hx2
        by_cases e : v = st.e
        · rw [if_pos e] at hx2
          cases hx2
          have h1 := I.P y hy st.b x hsb
          have h2 := hy st hm
          rw [e]
          omega
        · rw [if_neg e] at hx2
          exact I.P y hy v x2 hx2
    · rw [if_neg hmo]
      refine ⟨τ, T, clk, keep fun x' hx' => ?_⟩
      rw [hsb] at hx'
      cases hx'
      unfold more at hmo
      rw [hsb] at hmo
      cases hse : s.su.getD st.e none with
      | none =>
        rw [hse] at hmo
        exact absurd rfl hmo
      | some y =>
        rw [hse] at hmo
        simp only [decide_eq_true_eq] at hmo
        exact ⟨y, rfl, by omega⟩
theorem inv_fold (ok : Ok steps n) : ∀ (k j : Nat) {s : BS} {τ T : Nat → Nat} {clk : Nat}, j + k = steps.length → Inv steps n t j s τ T clk → ∃ τ' T' clk', Inv steps n t steps.length ((steps.drop j).foldl relax s) τ' T' clk'
  | 0, j, s, τ, T, clk, h, I => by
    rw [List.drop_eq_nil_of_le (by omega)]
    exact ⟨τ, T, clk, by rw [← h]; exact I⟩
  | k + 1, j, s, τ, T, clk, h, I => by
    have hl : j < steps.length := by omega
    obtain ⟨τ', T', clk', I'⟩ := inv_relax ok (List.getElem?_eq_getElem hl) I
    rw [List.drop_eq_getElem_cons hl, List.foldl_cons]
    exact inv_fold ok k (j + 1) (by omega) I'
theorem inv_next (I : Inv steps n t steps.length s τ T clk) : Inv steps n (t + 1) 0 { s with ch := none } τ T clk := by
  refine ⟨I.l1, I.l2, I.s0, fun k st hk x hx => ?_, I.L, I.N, I.T1, I.T2, fun v => ?_, fun v h => (by cases h), fun _ => I.t1, I.P⟩
  · rcases I.D k st hk x hx with h | h
    · exact .inl h
    · refine .inr ?_
      rw [if_pos (List.getElem?_eq_some_iff.mp hk).1] at h
      rw [if_neg (by omega)]
      exact h
  · have := I.t1 v
    omega
/-- behind t + 1 rounds -/
theorem inv_rnd (ok : Ok steps n) : ∀ t, ∃ τ T clk, Inv steps n t steps.length (rnd steps n (t + 1)) τ T clk
  | 0 => by
    have h := inv0 (steps := steps) ok.n0
    exact inv_fold ok steps.length 0 (by omega) h
  | t + 1 => by
    obtain ⟨τ, T, clk, I⟩ := inv_rnd ok t
    exact inv_fold ok steps.length 0 (by omega) (inv_next I)
/-- a round in which nothing changes: all steps hold -/
theorem still (I : Inv steps n t steps.length s τ T clk) (hc : s.ch = none) : ∀ st ∈ steps, ∀ x, s.su.getD st.b none = some x → ∃ y, s.su.getD st.e none = some y ∧ x + st.m ≤ y := fun st hst x hx => by
  obtain ⟨k, hk⟩ := List.getElem?_of_mem hst
  rcases I.D k st hk x hx with h | h
  · exact h
  · rw [if_pos (List.getElem?_eq_some_iff.mp hk).1] at h
    have := I.c2 hc st.b
    omega
end
/-! the ring -/
def pr (la : List (Option St)) (v : Nat) : Nat := match la.getD v none with
  | some st => st.b
  | none => v
def it (la : List (Option St)) (v : Nat) : Nat → Nat
  | 0 => v
  | i + 1 => pr la (it la v i)
def mo (la : List (Option St)) (v : Nat) : Int := match la.getD v none with
  | some st => st.m
  | none => 0
theorem it_add (la : List (Option St)) (v : Nat) (i : Nat) : ∀ j, it la v (i + j) = it la (it la v i) j
  | 0 => rfl
  | j + 1 => by
    show pr la (it la v (i + j)) = pr la (it la (it la v i) j)
    rw [it_add la v i j]
theorem pigeon : ∀ (n : Nat) (f : Nat → Nat), (∀ i, i ≤ n → f i < n) → ∃ i j, i < j ∧ j ≤ n ∧ f i = f j
  | 0, f, h => absurd (h 0 (Nat.le_refl _)) (by omega)
  | n + 1, f, h => by
    by_cases hx : ∃ i, i ≤ n ∧ f i = f (n + 1)
    · obtain ⟨i, h1, h2⟩ := hx
      exact ⟨i, n + 1, by omega, Nat.le_refl _, h2⟩
    · have hno : ∀ i, i ≤ n → f i ≠ f (n + 1) := fun i hi e => hx ⟨i, hi, e⟩
      have hl := h (n + 1) (Nat.le_refl _)
      obtain ⟨i, j, h1, h2, h3⟩ := pigeon n (fun i => if f i = n then f (n + 1) else f i) fun i hi => by
        have a := h i (by omega)
        have b := hno i hi
        show (if f i = n then f (n + 1) else f i) < n
        split <;> omega
      refine ⟨i, j, h1, by omega, ?_⟩
      have h3 : (if f i = n then f (n + 1) else f i) = (if f j = n then f (n + 1) else f j) := h3
      have a := hno i (by omega)
      have b := hno j h2
      by_cases e1 : f i = n
      · by_cases e2 : f j = n
        · omega
        · rw [if_pos e1, if_neg e2] at h3
          omega
      · by_cases e2 : f j = n
        · rw [if_neg e1, if_pos e2] at h3
          omega
        · rw [if_neg e1, if_neg e2] at h3
          exact h3
section
variable {steps : List St} {n : Nat} {s : BS} {τ T : Nat → Nat} {clk : Nat}
/-- something changed in the last round: the way back goes into a ring -/
theorem ring_at (ok : Ok steps n) (I : Inv steps n n steps.length s τ T clk) {v0 : Nat} (hc : s.ch = some v0) : (∀ i, ∃ st, s.la.getD (it s.la v0 i) none = some st) ∧ ∃ c, 1 ≤ c ∧ c ≤ n ∧ it s.la (it s.la v0 n) c = it s.la v0 n := by
  have hτ : ∀ i, i ≤ n → n + 1 ≤ τ (it s.la v0 i) + i := by
    intro i
    induction i with
    | zero =>
      intro _
      have := I.c1 v0 hc
      show n + 1 ≤ τ v0 + 0
      omega
    | succ i ih =>
      intro hi
      have h1 := ih (by omega)
      obtain ⟨st, hst⟩ := I.N (it s.la v0 i) (by omega)
      obtain ⟨_, _, h3, _⟩ := I.L _ st hst
      have e : it s.la v0 (i + 1) = st.b := by
        show pr s.la (it s.la v0 i) = st.b
        unfold pr
        rw [hst]
      rw [e]
      omega
  have hsome : ∀ i, i ≤ n → ∃ st, s.la.getD (it s.la v0 i) none = some st := fun i hi => I.N _ (by have := hτ i hi; omega)
  have hlt : ∀ i, i ≤ n → it s.la v0 i < n := fun i hi => by
    obtain ⟨st, hst⟩ := hsome i hi
    obtain ⟨h1, h2, _⟩ := I.L _ st hst
    rw [← h2]
    exact ok.e st h1
  obtain ⟨i, j, hij, hj, he⟩ := pigeon n (it s.la v0) hlt
  have hper : ∀ k, it s.la v0 (i + k) = it s.la v0 (j + k) := fun k => by rw [it_add, it_add, he]
  constructor
  · -- every place has one
    have key : ∀ k, ∃ a, a ≤ n ∧ it s.la v0 k = it s.la v0 a := by
      intro k
      induction k using Nat.strongRecOn with
      | ind k ih =>
        by_cases hk : k ≤ n
        · exact ⟨k, hk, rfl⟩
        · have e1 : k = j + (k - j) := by omega
          obtain ⟨a, ha, e2⟩ := ih (i + (k - j)) (by omega)
          refine ⟨a, ha, ?_⟩
          rw [e1, ← hper]
          exact e2
    intro k
    obtain ⟨a, ha, e⟩ := key k
    rw [e]
    exact hsome a ha
  · refine ⟨j - i, by omega, by omega, ?_⟩
    rw [← it_add]
    have e1 : n + (j - i) = j + (n - i) := by omega
    have e2 : n = i + (n - i) := by omega
    rw [e1, ← hper, ← e2]
/-- what a way back tells together -/
def wsum (la : List (Option St)) (v : Nat) : Nat → Int
  | 0 => 0
  | i + 1 => wsum la v i + mo la (it la v i)
/-- a ring of steps back tells more than nothing -/
theorem ring_pos (ok : Ok steps n) {t : Nat} (I : Inv steps n t steps.length s τ T clk) {v c : Nat} (hc : 1 ≤ c) (hs : ∀ i, i ≤ c → ∃ st, s.la.getD (it s.la v i) none = some st) (he : it s.la v c = v) : 0 < wsum s.la v c := by
  -- sums at the places
  have hx : ∀ i, i ≤ c → ∃ x, s.su.getD (it s.la v i) none = some x := fun i hi => by
    obtain ⟨st, hst⟩ := hs i hi
    obtain ⟨_, _, _, _, x, y, _, h2, _⟩ := I.L _ st hst
    exact ⟨y, h2⟩
  let X : Nat → Int := fun i => ((s.su.getD (it s.la v i) none).getD 0)
  have hstep : ∀ i, i < c → X i ≤ X (i + 1) + mo s.la (it s.la v i) ∧ (T (it s.la v i) < T (it s.la v (i + 1)) ∨ it s.la v (i + 1) = it s.la v i → X i < X (i + 1) + mo s.la (it s.la v i)) := fun i hi => by
    obtain ⟨st, hst⟩ := hs i (by omega)
    obtain ⟨_, _, _, _, x, y, h1, h2, h3, h4⟩ := I.L _ st hst
    have e1 : it s.la v (i + 1) = st.b := by
      show pr s.la (it s.la v i) = st.b
      unfold pr
      rw [hst]
    have e2 : mo s.la (it s.la v i) = st.m := by
      unfold mo
      rw [hst]
    have e3 : X i = y := by
      show ((s.su.getD (it s.la v i) none).getD 0) = y
      rw [h2]
      rfl
    have e4 : X (i + 1) = x := by
      show ((s.su.getD (it s.la v (i + 1)) none).getD 0) = x
      rw [e1, h1]
      rfl
    rw [e2, e3, e4, e1]
    exact ⟨h3, h4⟩
  have htel : ∀ i, i ≤ c → X 0 - X i ≤ wsum s.la v i ∧ ((∃ k, k < i ∧ (T (it s.la v k) < T (it s.la v (k + 1)) ∨ it s.la v (k + 1) = it s.la v k)) → X 0 - X i < wsum s.la v i) := by
    intro i
    induction i with
    | zero =>
      intro _
      refine ⟨?_, fun ⟨k, hk, _⟩ => by omega⟩
      show X 0 - X 0 ≤ 0
      omega
    | succ i ih =>
      intro hi
      obtain ⟨h1, h2⟩ := ih (by omega)
      obtain ⟨g1, g2⟩ := hstep i (by omega)
      have ew : wsum s.la v (i + 1) = wsum s.la v i + mo s.la (it s.la v i) := rfl
      rw [ew]
      refine ⟨by omega, fun ⟨k, hk, hT⟩ => ?_⟩
      by_cases e : k = i
      · subst e
        have := g2 hT
        omega
      · have := h2 ⟨k, by omega, hT⟩
        omega
  obtain ⟨h1, h2⟩ := htel c (Nat.le_refl _)
  have hX : X c = X 0 := by
    show ((s.su.getD (it s.la v c) none).getD 0) = ((s.su.getD (it s.la v 0) none).getD 0)
    rw [he]
    rfl
  by_cases hk : ∃ k, k < c ∧ (T (it s.la v k) < T (it s.la v (k + 1)) ∨ it s.la v (k + 1) = it s.la v k)
  · have := h2 hk
    omega
  · exfalso
    have hdown : ∀ k, k < c → T (it s.la v (k + 1)) ≤ T (it s.la v k) := fun k hk2 => by
      by_cases z : T (it s.la v (k + 1)) ≤ T (it s.la v k)
      · exact z
      · exact absurd ⟨k, hk2, .inl (by omega)⟩ hk
    have hall : ∀ k, k ≤ c → T (it s.la v c) ≤ T (it s.la v k) ∧ T (it s.la v k) ≤ T (it s.la v 0) := by
      have a : ∀ k, k ≤ c → T (it s.la v k) ≤ T (it s.la v 0) := by
        intro k
        induction k with
        | zero => exact fun _ => Nat.le_refl _
        | succ k ih =>
          intro h
          have := ih (by omega)
          have := hdown k (by omega)
          omega
      have b : ∀ d, d ≤ c → T (it s.la v c) ≤ T (it s.la v (c - d)) := by
        intro d
        induction d with
        | zero => exact fun _ => Nat.le_refl _
        | succ d ih =>
          intro h
          have h3 := ih (by omega)
          have h4 := hdown (c - (d + 1)) (by omega)
          rw [show c - (d + 1) + 1 = c - d by omega] at h4
          omega
      intro k hk2
      refine ⟨?_, a k hk2⟩
      have := b (c - k) (by omega)
      rwa [show c - (c - k) = k by omega] at this
    have h01 : T (it s.la v 1) = T (it s.la v 0) := by
      obtain ⟨a, b⟩ := hall 1 hc
      rw [he] at a
      have : T v = T (it s.la v 0) := rfl
      omega
    obtain ⟨st, hst⟩ := hs 0 (Nat.zero_le _)
    obtain ⟨hm, hev, _, hT, _⟩ := I.L _ st hst
    have e1 : it s.la v 1 = st.b := by
      show pr s.la (it s.la v 0) = st.b
      unfold pr
      rw [hst]
    have := I.T2 _ _ hT h01.symm
    exact hk ⟨0, hc, .inr this.symm⟩
/-- where there is a ring, nothing fits -/
theorem ring_no {la : List (Option St)} {v c : Nat} (hm : ∀ i, i < c → ∃ st, la.getD (it la v i) none = some st ∧ st ∈ steps ∧ st.e = it la v i) (he : it la v c = v) (hp : 0 < wsum la v c) {y : Nat → Int} (hy : Pot steps y) : False := by
  have key : ∀ i, i ≤ c → wsum la v i ≤ y v - y (it la v i) := by
    intro i
    induction i with
    | zero =>
      intro _
      show (0 : Int) ≤ y v - y v
      omega
    | succ i ih =>
      intro hi
      have h1 := ih (by omega)
      obtain ⟨st, hst, hmem, hev⟩ := hm i (by omega)
      have e1 : it la v (i + 1) = st.b := by
        show pr la (it la v i) = st.b
        unfold pr
        rw [hst]
      have e2 : mo la (it la v i) = st.m := by
        unfold mo
        rw [hst]
      have h2 := hy st hmem
      show wsum la v i + mo la (it la v i) ≤ _
      rw [e1, e2]
      rw [hev] at h2
      omega
  have := key c (Nat.le_refl _)
  rw [he] at this
  omega
end
end Bf

set_option Elab.async false
set_option linter.all false
set_option maxRecDepth 100000
set_option maxHeartbeats 2000000
namespace Dn
open PySem PySem.Spec PySem.W PySem.Calls PyProof.Rows L2 LamX
section
variable {X : Cx} {p : Pm} {ρ ρ1 : Rho} {K : PySem.W.Frag} {B B2 : Hp} {xs : List PyData}
theorem dpa_rev : ∀ {vs : List V} {xs : List PyData}, DpAll K B vs xs → DpAll K B vs.reverse xs.reverse
  | _, _, .nil => .nil
  | _ :: _, _ :: _, .cons d r => by
    rw [List.reverse_cons, List.reverse_cons]
    exact dpa_app (dpa_rev r) (.cons d .nil)
/-- xs[::-1] -/
theorem rv_rev {a : Expr} {ra : Rs} {kk : Nat} {p1 p2 p3 pos : Pos} (ha : RV X p a ρ ra ρ1) (hv : Vw ρ1 ra false xs) : RV X p (.Subscript a (.Slice none none (some (.UnaryOp .USub (.Constant (.int 1) kk p1) p2)) p3) pos) ρ (.li xs.reverse) ρ1 := by
  obtain ⟨ta, pa, ea⟩ := ha
  refine ⟨_, pe_revL pa, fun σ H B w F Q k => ea σ H B w F _ fun x H1 B1 w1 s1 F1 i1 => ?_⟩
  obtain ⟨l, vs, e, sq, d⟩ := vw_ok F1 i1 hv
  refine ⟨l, vs, e, sq, fun q hq => ?_⟩
  obtain ⟨s4, F4, i4⟩ := new_lst (T := p.T) F1 hq (dpa_rev d)
  exact k _ _ _ _ (s1.trans s4) F4 (i4.back s1)
end
end Dn

set_option Elab.async false
set_option linter.all false
set_option maxRecDepth 100000
set_option maxHeartbeats 2000000
/-! what solved() tells -/
namespace Bf
open PySem
/-- the first round in which nothing changes (n + 1: none) -/
def solT (steps : List St) (n : Nat) : Nat := (List.range (n + 1)).findIdx fun t => (rnd steps n (t + 1)).ch.isNone
def solS (steps : List St) (n : Nat) : BS := if solT steps n ≤ n then rnd steps n (solT steps n + 1) else rnd steps n (n + 1)
def rgC (la : List (Option St)) (v n : Nat) : Nat := ((List.range n).findIdx fun i => decide (it la v (i + 1) = v)) + 1
def nmO : Option St → PyData
  | some st => st.nm
  | none => .none
def rgL (la : List (Option St)) (v : Nat) (i : Nat) : List PyData := (List.range i).map fun j => nmO (la.getD (it la v j) none)
def rgO (steps : List St) (n : Nat) : Option (List PyData) :=
  if solT steps n ≤ n then none else
    match (rnd steps n (n + 1)).ch with
    | none => none
    | some v0 => some (rgL (rnd steps n (n + 1)).la (it (rnd steps n (n + 1)).la v0 n) (rgC (rnd steps n (n + 1)).la (it (rnd steps n (n + 1)).la v0 n) n)).reverse
theorem find_ge {p : Nat → Bool} {m i : Nat} (h : i < (List.range m).findIdx p) : p i = false := by
  have hl : i < m := by
    have := List.findIdx_le_length (xs := List.range m) (p := p)
    rw [List.length_range] at this
    omega
  have := List.not_of_lt_findIdx h
  rw [List.getElem_range] at this
  exact this
theorem find_lt {p : Nat → Bool} {m : Nat} (h : (List.range m).findIdx p < m) : p ((List.range m).findIdx p) = true := by
  have h2 : (List.range m).findIdx p < (List.range m).length := by rw [List.length_range]; exact h
  have := List.findIdx_getElem (w := h2)
  rwa [List.getElem_range] at this
theorem find_le {p : Nat → Bool} {m i : Nat} (hi : i < m) (h : p i = true) : (List.range m).findIdx p ≤ i := by
  by_cases z : (List.range m).findIdx p ≤ i
  · exact z
  · have := find_ge (p := p) (m := m) (i := i) (by omega)
    rw [h] at this
    cases this
theorem solT_le (steps : List St) (n : Nat) : solT steps n ≤ n + 1 := by
  have := List.findIdx_le_length (xs := List.range (n + 1)) (p := fun t => (rnd steps n (t + 1)).ch.isNone)
  rwa [List.length_range] at this
theorem solT_lt {steps : List St} {n t : Nat} (h : t < solT steps n) : ∃ v, (rnd steps n (t + 1)).ch = some v := by
  have := find_ge (p := fun t => (rnd steps n (t + 1)).ch.isNone) h
  exact Option.ne_none_iff_exists'.mp fun e => by
    have this : ((rnd steps n (t + 1)).ch.isNone) = false := this
    rw [e] at this
    cases this
theorem solT_at {steps : List St} {n : Nat} (h : solT steps n ≤ n) : (rnd steps n (solT steps n + 1)).ch = none := by
  have := find_lt (p := fun t => (rnd steps n (t + 1)).ch.isNone) (m := n + 1) (show solT steps n < n + 1 by omega)
  exact Option.isNone_iff_eq_none.mp this
theorem solT_no {steps : List St} {n : Nat} (h : ¬ solT steps n ≤ n) : solT steps n = n + 1 := by
  have := solT_le steps n
  omega
/-- the least way round -/
theorem rgC_at {la : List (Option St)} {v n : Nat} (h : ∃ c, 1 ≤ c ∧ c ≤ n ∧ it la v c = v) : it la v (rgC la v n) = v ∧ rgC la v n ≤ n ∧ 1 ≤ rgC la v n ∧ ∀ i, 1 ≤ i → i < rgC la v n → it la v i ≠ v := by
  obtain ⟨c, c1, c2, hc⟩ := h
  have hle : (List.range n).findIdx (fun i => decide (it la v (i + 1) = v)) ≤ c - 1 := find_le (by omega) (decide_eq_true (by rw [show c - 1 + 1 = c by omega]; exact hc))
  refine ⟨?_, by unfold rgC; omega, by unfold rgC; omega, fun i h1 h2 => ?_⟩
  · have := find_lt (p := fun i => decide (it la v (i + 1) = v)) (m := n) (by omega)
    exact of_decide_eq_true this
  · have := find_ge (p := fun i => decide (it la v (i + 1) = v)) (m := n) (i := i - 1) (by unfold rgC at h2; omega)
    have := of_decide_eq_false this
    rwa [show i - 1 + 1 = i by omega] at this
section
variable {steps : List St} {n : Nat}
theorem solS_inv (ok : Ok steps n) : ∃ t τ T clk, Inv steps n t steps.length (solS steps n) τ T clk := by
  unfold solS
  split
  · exact ⟨_, inv_rnd ok _⟩
  · exact ⟨_, inv_rnd ok _⟩
/-- no ring: all steps hold -/
theorem sol_still (ok : Ok steps n) (h : rgO steps n = none) : solT steps n ≤ n := by
  by_cases z : solT steps n ≤ n
  · exact z
  · unfold rgO at h
    rw [if_neg z] at h
    obtain ⟨v, hv⟩ := solT_lt (steps := steps) (n := n) (t := n) (by rw [solT_no z]; omega)
    rw [hv] at h
    cases h
theorem sol_holds (ok : Ok steps n) (h : solT steps n ≤ n) : ∀ st ∈ steps, ∀ x, (solS steps n).su.getD st.b none = some x → ∃ y, (solS steps n).su.getD st.e none = some y ∧ x + st.m ≤ y := by
  unfold solS
  rw [if_pos h]
  obtain ⟨τ, T, clk, I⟩ := inv_rnd ok (solT steps n)
  exact still I (solT_at h)
theorem sol_P (ok : Ok steps n) {y : Nat → Int} (hy : Pot steps y) {v : Nat} {x : Int} (h : (solS steps n).su.getD v none = some x) : x ≤ y v - y 0 := by
  obtain ⟨t, τ, T, clk, I⟩ := solS_inv ok
  exact I.P y hy v x h
theorem sol_len (ok : Ok steps n) : (solS steps n).su.length = n ∧ (solS steps n).la.length = n := by
  obtain ⟨t, τ, T, clk, I⟩ := solS_inv ok
  exact ⟨I.l1, I.l2⟩
theorem sol_0 (ok : Ok steps n) : ∃ x, (solS steps n).su.getD 0 none = some x ∧ 0 ≤ x := by
  obtain ⟨t, τ, T, clk, I⟩ := solS_inv ok
  exact I.s0
/-- what the ring is -/
structure Rg (steps : List St) (n : Nat) (la : List (Option St)) (v0 : Nat) : Prop where
  hs : ∀ i, ∃ st, la.getD (it la v0 i) none = some st ∧ st ∈ steps ∧ st.e = it la v0 i
  hc : ∃ c, 1 ≤ c ∧ c ≤ n ∧ it la (it la v0 n) c = it la v0 n
  hp : ∀ c, 1 ≤ c → it la (it la v0 n) c = it la v0 n → 0 < wsum la (it la v0 n) c
  len : la.length = n
theorem sol_rg (ok : Ok steps n) (h : ¬ solT steps n ≤ n) : ∃ v0, (rnd steps n (n + 1)).ch = some v0 ∧ v0 < n ∧ Rg steps n (rnd steps n (n + 1)).la v0 := by
  obtain ⟨v0, hv⟩ := solT_lt (steps := steps) (n := n) (t := n) (by rw [solT_no h]; omega)
  obtain ⟨τ, T, clk, I⟩ := inv_rnd ok n
  obtain ⟨h1, h2⟩ := ring_at ok I hv
  have hs : ∀ i, ∃ st, (rnd steps n (n + 1)).la.getD (it (rnd steps n (n + 1)).la v0 i) none = some st ∧ st ∈ steps ∧ st.e = it (rnd steps n (n + 1)).la v0 i := fun i => by
    obtain ⟨st, hst⟩ := h1 i
    obtain ⟨a, b, _⟩ := I.L _ st hst
    exact ⟨st, hst, a, b⟩
  refine ⟨v0, hv, ?_, hs, h2, fun c c1 hc => ring_pos ok I c1 (fun i _ => ?_) hc, I.l2⟩
  · obtain ⟨st, _, h3, h4⟩ := hs 0
    have := ok.e st h3
    rw [h4] at this
    exact this
  · rw [← it_add]
    exact h1 _
theorem rgO_none (ok : Ok steps n) {y : Nat → Int} (hy : Pot steps y) : rgO steps n = none := by
  by_cases z : solT steps n ≤ n
  · unfold rgO
    rw [if_pos z]
  · exfalso
    obtain ⟨v0, _, _, R⟩ := sol_rg ok z
    obtain ⟨c, c1, _, hc⟩ := R.hc
    refine ring_no (steps := steps) (la := (rnd steps n (n + 1)).la) (v := it (rnd steps n (n + 1)).la v0 n) (c := c) (fun i _ => ?_) hc (R.hp c c1 hc) hy
    rw [← it_add]
    exact R.hs _
end
end Bf

set_option Elab.async false
set_option linter.all false
set_option maxRecDepth 100000
set_option maxHeartbeats 2000000
/-! the greatest sums: down, as long as something goes down -/
namespace Bf
open PySem
def relaxG (s : List Int × Bool) (st : St) : List Int × Bool := if s.1.getD st.e 0 - st.m < s.1.getD st.b 0 then (s.1.set st.b (s.1.getD st.e 0 - st.m), true) else s
def passG (steps : List St) (g : List Int) : List Int × Bool := steps.foldl relaxG (g, false)
def gp (steps : List St) (g0 : List Int) : Nat → List Int × Bool
  | 0 => (g0, true)
  | i + 1 => passG steps (gp steps g0 i).1
def runG (steps : List St) : Nat → List Int × Bool → List Int
  | 0, s => s.1
  | k + 1, s => if s.2 = true then runG steps k (passG steps s.1) else s.1
def grL (steps : List St) (g0 : List Int) : List Int := runG steps (g0.sum.toNat + 1) (g0, true)
theorem getDI_set {l : List Int} {i j : Nat} {v : Int} : (l.set i v).getD j 0 = if i = j ∧ i < l.length then v else l.getD j 0 := by
  rw [List.getD_eq_getElem?_getD, List.getElem?_set]
  by_cases e : i = j
  · subst e
    by_cases h : i < l.length
    · simp [h]
    · simp [h]
  · simp [e]
theorem sum_set : ∀ (l : List Int) (i : Nat) (v : Int), i < l.length → (l.set i v).sum = l.sum - l.getD i 0 + v
  | [], _, _, h => by cases h
  | x :: l, 0, v, _ => by
    show v + l.sum = (x + l.sum) - x + v
    omega
  | x :: l, i + 1, v, h => by
    have := sum_set l i v (by rw [List.length_cons] at h; omega)
    show x + (l.set i v).sum = (x + l.sum) - l.getD i 0 + v
    omega
/-- what stands above y -/
structure Up (steps : List St) (n : Nat) (y : Nat → Int) (g : List Int) : Prop where
  len : g.length = n
  up : ∀ v, v < n → y v - y 0 ≤ g.getD v 0
section
variable {steps : List St} {n : Nat} {y : Nat → Int}
theorem up_relax (ok : Ok steps n) (hy : Pot steps y) {s : List Int × Bool} {st : St} (hm : st ∈ steps) (h : Up steps n y s.1) : Up steps n y (relaxG s st).1 ∧ (relaxG s st).1.sum ≤ s.1.sum := by
  unfold relaxG
  split
  · rename_i hlt
    have hb := ok.b st hm
    have he := ok.e st hm
    refine ⟨⟨by show (s.1.set _ _).length = n; rw [List.length_set]; exact h.len, fun v hv => ?_⟩, ?_⟩
    · show y v - y 0 ≤ (s.1.set _ _).getD v 0
      rw [getDI_set]
      split
      · rename_i e
        have := hy st hm
        have := h.up st.e he
        rw [← e.1]
        omega
      · exact h.up v hv
    · show (s.1.set _ _).sum ≤ _
      rw [sum_set _ _ _ (by rw [h.len]; exact hb)]
      omega
  · exact ⟨h, Int.le_refl _⟩
theorem up_fold (ok : Ok steps n) (hy : Pot steps y) : ∀ (l : List St) (s : List Int × Bool), (∀ st ∈ l, st ∈ steps) → Up steps n y s.1 → Up steps n y (l.foldl relaxG s).1 ∧ (l.foldl relaxG s).1.sum ≤ s.1.sum
  | [], _, _, h => ⟨h, Int.le_refl _⟩
  | st :: l, s, hl, h => by
    obtain ⟨h1, h2⟩ := up_relax ok hy (hl st (.head _)) h
    obtain ⟨h3, h4⟩ := up_fold ok hy l (relaxG s st) (fun x hx => hl x (.tail _ hx)) h1
    exact ⟨h3, Int.le_trans h4 h2⟩
theorem flag_stays : ∀ (l : List St) (s : List Int × Bool), s.2 = true → (l.foldl relaxG s).2 = true
  | [], _, h => h
  | st :: l, s, h => by
    refine flag_stays l _ ?_
    unfold relaxG
    split
    · rfl
    · exact h
/-- a pass with a change goes down -/
theorem pass_down (ok : Ok steps n) (hy : Pot steps y) : ∀ (l : List St) (g : List Int), (∀ st ∈ l, st ∈ steps) → Up steps n y g → (l.foldl relaxG (g, false)).2 = true → (l.foldl relaxG (g, false)).1.sum < g.sum
  | [], _, _, _, h => by cases h
  | st :: l, g, hl, h, hf => by
    rw [List.foldl_cons] at hf ⊢
    by_cases z : g.getD st.e 0 - st.m < g.getD st.b 0
    · obtain ⟨h1, _⟩ := up_relax ok hy (s := (g, false)) (hl st (.head _)) h
      obtain ⟨_, h4⟩ := up_fold ok hy l _ (fun x hx => hl x (.tail _ hx)) h1
      have e : (relaxG (g, false) st).1.sum < g.sum := by
        unfold relaxG
        rw [if_pos z]
        show (g.set _ _).sum < _
        rw [sum_set _ _ _ (by rw [h.len]; exact ok.b st (hl st (.head _)))]
        show g.sum - g.getD st.b 0 + (g.getD st.e 0 - st.m) < g.sum
        omega
      omega
    · have e : relaxG (g, false) st = (g, false) := by unfold relaxG; exact if_neg z
      rw [e] at hf ⊢
      exact pass_down ok hy l g (fun x hx => hl x (.tail _ hx)) h hf
/-- a pass without: all steps hold -/
theorem pass_still : ∀ (l : List St) (g : List Int), (l.foldl relaxG (g, false)).2 = false → (l.foldl relaxG (g, false)).1 = g ∧ ∀ st ∈ l, g.getD st.b 0 + st.m ≤ g.getD st.e 0
  | [], _, _ => ⟨rfl, fun _ h => by cases h⟩
  | st :: l, g, hf => by
    rw [List.foldl_cons] at hf ⊢
    by_cases z : g.getD st.e 0 - st.m < g.getD st.b 0
    · have e : (relaxG (g, false) st).2 = true := by unfold relaxG; rw [if_pos z]
      rw [flag_stays l _ e] at hf
      cases hf
    · have e : relaxG (g, false) st = (g, false) := by unfold relaxG; exact if_neg z
      rw [e] at hf ⊢
      obtain ⟨h1, h2⟩ := pass_still l g hf
      refine ⟨h1, fun x hx => ?_⟩
      rcases List.mem_cons.mp hx with rfl | hx
      · omega
      · exact h2 x hx
theorem sum_le : ∀ (l : List Int), (∀ v, v < l.length → 0 ≤ l.getD v 0) → 0 ≤ l.sum
  | [], _ => Int.le_refl _
  | x :: l, h => by
    have h0 : 0 ≤ x := h 0 (by rw [List.length_cons]; omega)
    have h1 := sum_le l fun v hv => h (v + 1) (by rw [List.length_cons]; omega)
    rw [List.sum_cons]
    omega
/-- where it ends -/
theorem run_end (ok : Ok steps n) (hy : Pot steps y) (h0 : ∀ v, v < n → 0 ≤ y v - y 0) (g0 : List Int) : ∀ (k i : Nat), (∀ j, j < i → (gp steps g0 j).2 = true) → (i = 0 ∨ Up steps n y (gp steps g0 i).1) → Up steps n y (gp steps g0 i).1 → (gp steps g0 i).1.sum + (if (gp steps g0 i).2 = true then 1 else 0) ≤ (k : Int) → ∃ m, (∀ j, j < m → (gp steps g0 j).2 = true) ∧ (gp steps g0 m).2 = false ∧ runG steps k (gp steps g0 i) = (gp steps g0 m).1 ∧ Up steps n y (gp steps g0 m).1
  | 0, i, hj, _, hu, hk => by
    have := sum_le (gp steps g0 i).1 fun v hv => Int.le_trans (h0 v (by rw [← hu.len]; exact hv)) (hu.up v (by rw [← hu.len]; exact hv))
    refine ⟨i, hj, ?_, rfl, hu⟩
    cases e : (gp steps g0 i).2 with
    | false => rfl
    | true =>
      rw [e, if_pos rfl] at hk
      omega
  | k + 1, i, hj, hi, hu, hk => by
    cases e : (gp steps g0 i).2 with
    | false =>
      refine ⟨i, hj, e, ?_, hu⟩
      show (if (gp steps g0 i).2 = true then _ else (gp steps g0 i).1) = _
      rw [e]
      exact if_neg (by decide)
    | true =>
      have e2 : runG steps (k + 1) (gp steps g0 i) = runG steps k (gp steps g0 (i + 1)) := by
        show (if (gp steps g0 i).2 = true then runG steps k (passG steps (gp steps g0 i).1) else _) = _
        rw [e]
        exact if_pos rfl
      obtain ⟨h3, h4⟩ := up_fold ok hy steps ((gp steps g0 i).1, false) (fun _ h => h) hu
      rw [e2]
      refine run_end ok hy h0 g0 k (i + 1) (fun j hj2 => ?_) (.inr h3) h3 ?_
      · by_cases z : j = i
        · rw [z]; exact e
        · exact hj j (by omega)
      · rw [e, if_pos rfl] at hk
        show (passG steps (gp steps g0 i).1).1.sum + (if (passG steps (gp steps g0 i).1).2 = true then 1 else 0) ≤ (k : Int)
        have h4 : (passG steps (gp steps g0 i).1).1.sum ≤ (gp steps g0 i).1.sum := h4
        split
        · rename_i hc
          have := pass_down ok hy steps (gp steps g0 i).1 (fun _ h => h) hu hc
          have this : (passG steps (gp steps g0 i).1).1.sum < (gp steps g0 i).1.sum := this
          omega
        · omega
theorem gr_end (ok : Ok steps n) (hy : Pot steps y) (h0 : ∀ v, v < n → 0 ≤ y v - y 0) {g0 : List Int} (hu : Up steps n y g0) : ∃ m, (∀ j, j < m → (gp steps g0 j).2 = true) ∧ (gp steps g0 m).2 = false ∧ grL steps g0 = (gp steps g0 m).1 ∧ 0 < m := by
  have hs := sum_le g0 fun v hv => Int.le_trans (h0 v (by rw [← hu.len]; exact hv)) (hu.up v (by rw [← hu.len]; exact hv))
  obtain ⟨m, h1, h2, h3, _⟩ := run_end ok hy h0 g0 (g0.sum.toNat + 1) 0 (fun j hj => by omega) (.inl rfl) hu (by show g0.sum + (if true = true then 1 else 0) ≤ _; rw [if_pos rfl]; omega)
  refine ⟨m, h1, h2, h3, ?_⟩
  cases m with
  | zero => cases h2
  | succ m => omega
/-- above all that fits -/
theorem gp_up (ok : Ok steps n) {z : Nat → Int} (hz : Pot steps z) {g0 : List Int} (hu : Up steps n z g0) : ∀ i, Up steps n z (gp steps g0 i).1
  | 0 => hu
  | i + 1 => (up_fold ok hz steps ((gp steps g0 i).1, false) (fun _ h => h) (gp_up ok hz hu i)).1
theorem gr_pot {g0 : List Int} {m : Nat} (h0 : 0 < m) (h : (gp steps g0 m).2 = false) : Pot steps fun v => (gp steps g0 m).1.getD v 0 := by
  cases m with
  | zero => cases h
  | succ m =>
    obtain ⟨e, h2⟩ := pass_still steps (gp steps g0 m).1 h
    have e : (gp steps g0 (m + 1)).1 = (gp steps g0 m).1 := e
    rw [e]
    exact h2
theorem relax_at0 {s : List Int × Bool} {st : St} (h : s.1.getD 0 0 ≤ 0) : (relaxG s st).1.getD 0 0 ≤ 0 := by
  unfold relaxG
  split
  · rename_i hlt
    show (s.1.set _ _).getD 0 0 ≤ 0
    rw [getDI_set]
    split
    · rename_i e
      rw [e.1] at hlt
      omega
    · exact h
  · exact h
theorem fold_at0 : ∀ (l : List St) (s : List Int × Bool), s.1.getD 0 0 ≤ 0 → (l.foldl relaxG s).1.getD 0 0 ≤ 0
  | [], _, h => h
  | st :: l, s, h => fold_at0 l _ (relax_at0 h)
theorem gp_at0 {g0 : List Int} (h : g0.getD 0 0 ≤ 0) : ∀ i, (gp steps g0 i).1.getD 0 0 ≤ 0
  | 0 => h
  | i + 1 => fold_at0 steps ((gp steps g0 i).1, false) (gp_at0 h i)
end
end Bf

set_option Elab.async false
set_option linter.all false
set_option maxRecDepth 100000
set_option maxHeartbeats 2000000
namespace Dn
open PySem PySem.Spec PySem.W PySem.Calls PyProof.Rows L2 LamX
section
variable {X : Cx} {p : Pm} {ρ ρ1 : Rho} {er : Er} {e : Expr} {pos : Pos}
/-- name = e, where e raises -/
theorem rs_setX (i : Nat) {nm : Xn} {n : Str} {pos' : Pos} (h : RX X p er e ρ nm) (hN : X.N.Nodup) (hi : X.N[i]? = some n := by rfl) (hx : Loc X.env.scope n := by first | exact Or.inl rfl | exact Or.inr rfl)
    (hs : swapsWith e (some (.Name n pos')) pos.line X.env = pure false := by rfl) (hf : X.fn n = true ∨ X.env.scope.names.lookup n = some .local := by first | exact .inl rfl | exact .inr rfl) : RS X p er (.Assign [.Name n pos'] e pos) ρ (.er nm) := by
  obtain ⟨t, pt, et⟩ := h
  exact ⟨_, ps_set hN hi hx pt hs hf, fun σ H B w F D k => et σ H B w F _ fun d H' B' w' s F' h => k d H' B' w' s F'.ext h⟩
theorem rs_retX {nm : Xn} (h : RX X p er e ρ nm) : RS X p er (.Return (some e) pos) ρ (.er nm) := by
  obtain ⟨t, pt, et⟩ := h
  exact ⟨_, ps_ret pt, fun σ H B w F D k => et σ H B w F _ fun d H' B' w' s F' h => k d H' B' w' s F'.ext h⟩
theorem rf_setX {sts : List Stmt} (i : Nat) {nm : Xn} {n : Str} {pos' : Pos} (h : RX X p er e ρ nm) (hN : X.N.Nodup) (hi : X.N[i]? = some n := by rfl) (hx : Loc X.env.scope n := by first | exact Or.inl rfl | exact Or.inr rfl)
    (hs : swapsWith e (some (.Name n pos')) pos.line X.env = pure false := by rfl) (hf : X.fn n = true ∨ X.env.scope.names.lookup n = some .local := by first | exact .inl rfl | exact .inr rfl) : RSf X p er (.Assign [.Name n pos'] e pos :: sts) ρ (.err nm) := rf_er (rs_setX i h hN hi hx hs hf)
end
end Dn

set_option Elab.async false
set_option linter.all false
set_option maxRecDepth 100000
set_option maxHeartbeats 2000000
namespace Dn
open PySem PySem.Spec PySem.W PySem.Calls PyProof.Rows L2 LamX
theorem eqvA_ints : ∀ a b : List Int, PyData.eqvAll (a.map .int) (b.map .int) = decide (a = b)
  | [], [] => by simp [PyData.eqvAll]
  | [], _ :: _ => by simp [PyData.eqvAll]
  | _ :: _, [] => by simp [PyData.eqvAll]
  | x :: a, y :: b => by
    rw [List.map_cons, List.map_cons, PyData.eqvAll, eqvA_ints a b]
    by_cases e : x = y
    · subst e
      simp [PyData.eqv]
    · simp [PyData.eqv, e]
theorem eqvT_ints (a b : List Int) : PyData.eqv (.tuple (a.map .int)) (.tuple (b.map .int)) = decide (a = b) := by
  rw [PyData.eqv, eqvA_ints]
theorem eqvL_ints (a b : List Int) : PyData.eqv (.list (a.map .int)) (.list (b.map .int)) = decide (a = b) := by
  rw [PyData.eqv, eqvA_ints]
theorem any_tups (l : List (List Int)) (p : List Int) : ((l.map fun q => PyData.tuple (q.map .int)).any fun z => PyData.eqv z (.tuple (p.map .int))) = decide (p ∈ l) := by
  induction l with
  | nil => simp
  | cons q l ih =>
    rw [List.map_cons, List.any_cons, ih, eqvT_ints]
    by_cases e : q = p
    · subst e; simp
    · have e2 : ¬ p = q := fun z => e z.symm
      simp [e, e2]
theorem canLay_tups : ∀ l : List (List Int), PyData.canLayAll0 (l.map fun q => PyData.tuple (q.map .int)) = true
  | [] => by simp [PyData.canLayAll0]
  | q :: l => by
    rw [List.map_cons, PyData.canLayAll0, canLay_tups l, PyData.canLay0, canLayI]
    rfl
theorem depth_tups : ∀ l : List (List Int), PyData.depthAll (l.map fun q => PyData.tuple (q.map .int)) ≤ 1
  | [] => by simp [PyData.depthAll]
  | q :: l => by
    have := depth_tups l
    rw [List.map_cons, PyData.depthAll, PyData.depth, PySem.W.depth_ints]
    omega
theorem shaped_ltups (l : List (List Int)) : SeqAt.shaped (.list (l.map fun q => PyData.tuple (q.map .int))) = true := by
  have := depth_tups l
  unfold SeqAt.shaped
  rw [PyData.canLay0, canLay_tups, PyData.depth, decide_eq_true (by omega)]
  rfl
end Dn

set_option Elab.async false
set_option linter.all false
set_option maxRecDepth 100000
set_option maxHeartbeats 2000000
namespace Dn
open PySem PySem.Spec PySem.W PySem.Calls PyProof.Rows L2 LamX
section
variable {X : Cx} {p : Pm} {ρ ρ1 ρ2 : Rho} {K : PySem.W.Frag} {T : List (Addr × Str)} {φ : Nat → Option V} {B H : Hp} {w : Addr → Option Nat} {σ : L2.St} {e a b : Expr} {pos : Pos} {er : Er} {v : V}
/-! ### things that are no data -/
def RM (X : Cx) (p : Pm) (e : Expr) (ρ : Rho) (M : Mon) (ρ' : Rho) : Prop := ∃ t, PE X e t ∧
  ∀ σ H B w, Rl X.K p.T p.φ B w H σ ρ → ∀ Q : VK, (∀ v H' B' w', Stp p.T w B H w' B' H' → Rl X.K p.T p.φ B' w' H' σ ρ' → M.f X.K B' v → Q v H') → t σ H Q
theorem rl_setM {i : Nat} {M : Mon} (F : Rl K T φ B w H σ ρ) (hφ : φ i = none) (d : M.f K B v) : Rl K T φ B w H (σ.set i (some v)) (ρ.set i (mm M)) := by
  refine ⟨F.ext, by rw [List.length_set, List.length_set]; exact F.len, F.wok, F.tabs, F.nt, fun j u h => ?_, fun j u h => ?_, fun j u h => ?_, fun j u h => ?_⟩
  · have hj : i ≠ j := fun e => by
      rw [← e, hφ] at h
      cases h
    rw [List.getElem?_set_ne hj]
    exact F.fix j u h
  · by_cases hj : j = i
    · subst hj
      have hlt : j < ρ.length := by
        have := (List.getElem?_eq_some_iff.mp h).1
        rwa [List.length_set] at this
      rw [List.getElem?_set_self hlt] at h
      cases h
      exact ⟨v, List.getElem?_set_self (by rw [← F.len]; exact hlt), d⟩
    · rw [List.getElem?_set_ne (Ne.symm hj)] at h ⊢
      exact F.dat j u h
  · by_cases hj : j = i
    · subst hj
      have hlt : j < ρ.length := by
        have := (List.getElem?_eq_some_iff.mp h).1
        rwa [List.length_set] at this
      rw [List.getElem?_set_self hlt] at h
      cases h
    · rw [List.getElem?_set_ne (Ne.symm hj)] at h ⊢
      exact F.own j u h
  · by_cases hj : j = i
    · subst hj
      have hlt : j < ρ.length := by
        have := (List.getElem?_eq_some_iff.mp h).1
        rwa [List.length_set] at this
      rw [List.getElem?_set_self hlt] at h
      cases h
    · rw [List.getElem?_set_ne (Ne.symm hj)] at h ⊢
      exact F.obj j u h
theorem rs_setM (i : Nat) {n : Str} {pos' : Pos} {M : Mon} (h : RM X p e ρ M ρ1) (hN : X.N.Nodup) (hi : X.N[i]? = some n := by rfl) (hx : Loc X.env.scope n := by first | exact Or.inl rfl | exact Or.inr rfl) (hφ : p.φ i = none := by rfl)
    (hs : swapsWith e (some (.Name n pos')) pos.line X.env = pure false := by rfl) (hf : X.fn n = true ∨ X.env.scope.names.lookup n = some .local := by first | exact .inl rfl | exact .inr rfl) (hE : ρ2 = ρ1.set i (mm M) := by rfl) : RS X p er (.Assign [.Name n pos'] e pos) ρ (.nx ρ2) := by
  subst hE
  obtain ⟨t, pt, et⟩ := h
  exact ⟨_, ps_set hN hi hx pt hs hf, fun σ H B w F D k => et σ H B w F _ fun v H' B' w' s F' d => k _ H' B' w' s (rl_setM F' hφ d)⟩
theorem rm_name (i : Nat) {n : Str} {M : Mon} (hρ : ρ[i]? = some (mm M) := by rfl) (hN : X.N[i]? = some n := by rfl) (hv : Vis X.env.scope n := by first | exact Or.inl rfl | exact Or.inr (Or.inl rfl) | exact Or.inr (Or.inr rfl))
    (hd : (n == ("__debug__" : Str)) = false := by decide) (hcd : (n == ("__classdict__" : Str)) = false := by decide) : RM X p (.Name n pos) ρ M ρ := by
  refine ⟨tVar i, pe_var hN hv hd hcd, fun σ H B w F Q k => ?_⟩
  obtain ⟨v, h1, h2⟩ := F.dat i (.m M) hρ
  exact ⟨v, h1, k v H B w Stp.refl F h2⟩
/-! ### ranges -/
def rngM (lo hi : Int) : Mon := ⟨fun _ B v => ∃ r, v = .ref r ∧ B r = some (.rng lo hi), fun e ⟨r, h1, h2⟩ => ⟨r, h1, e _ _ h2⟩⟩
theorem cr_range1 : CallR X (.type "range") (fun vs H Q => ∃ i, vs = [V.int i] ∧ ∀ p, H p = none → Q (.ref p) (upd H p (.rng 0 i))) := by
  intro pins s σ H vs us Q I r h
  obtain ⟨i, rfl, q⟩ := h
  cases r with
  | cons r rr =>
    cases rr
    obtain ⟨t, rfl⟩ := r
    refine call_range_1 ⟨.ref s.heap.objs.size, upd H s.heap.objs.size (.rng 0 i), I.laid (t' := s.toks + 1 + 1) (fun b o e => Heap.get?_push_of_some _ e) (Nat.le_refl _) ?_, rfl, q _ (I.hok.fresh (Nat.le_refl _))⟩
    exact ⟨s.toks, t, s.toks + 1, Heap.get?_push_size _ rfl⟩
theorem rm_range1 {pp : Pos} {k : Int} (h : RA X p [a] ρ [.da (.int k)] ρ1) (hm : X.mg "range" = none) (hg : Gl X "range" := by rfl) (he : starEach [a] X.env = (false, eval a X.env) :: starEach [] X.env := by rfl) (hpl : (backTo pos (starEach [] X.env)).any (·.1) = false := by rfl) :
    RM X p (.Call (.Name "range" pp) [a] [] pos) ρ (rngM 0 k) ρ1 := by
  obtain ⟨t, pt, et⟩ := h
  refine ⟨_, pe_callTy cr_range1 hg hm (by decide +kernel) pt (by decide) (by decide) he hpl, fun σ H B w F Q k0 => et σ H B w F _ fun vs H1 B1 w1 s1 F1 i1 => ?_⟩
  obtain ⟨v, rfl, i2⟩ := itvs1 i1
  refine ⟨k, by rw [dp_int i2], fun q hq => ?_⟩
  obtain ⟨s2, F2⟩ := new_both F1 hq (.rng 0 k) (fun ps z => by cases z)
  exact k0 _ _ _ _ (s1.trans s2) F2 ⟨q, rfl, upd_same⟩
def iRngN (te : TE) : TI := fun σ H R => te σ H fun x H1 => ∃ (r : Addr) (lo hi : Int), x = .ref r ∧ H1 r = some (.rng lo hi) ∧ -(2 ^ 62) ≤ lo ∧ lo < 2 ^ 62 ∧ -(2 ^ 62) ≤ hi ∧ hi < 2 ^ 62 ∧ R (Itr lo (hi - lo).toNat) H1
theorem pi_rngN {tg l : Expr} {te : TE} (hl : PE X l te) : PI X tg l (iRngN te) := by
  refine ⟨fun pins s σ H R I h => ?_⟩
  refine thn (hl.run pins s σ H _ I h) fun v s1 ⟨x, H1, I1, r1, q1⟩ => ?_
  obtain ⟨r, lo, hi, e, ha, h1, h2, h3, h4, q⟩ := q1
  subst e
  cases r1
  obtain ⟨t, u, w, ho⟩ := I1.hok r _ ha
  refine wpAny_pyIter_range (show IsRange s1.heap r lo hi 1 t u w from ho) (small_one h1 h2 h3 h4) ?_
  refine ⟨s1.heap.objs.size, [s1.heap.objs.size], _, _, H1, rfl,
    I1.kept (t' := s1.toks) fun b o e => Heap.get?_push_of_some _ e, turn_range _ lo (hi - lo).toNat, ?_, fun b hb => ?_, q⟩
  · have e1 : lo + ((0 : Nat) : Int) * 1 = lo := by simp
    have e2 : (((hi - lo).toNat : Nat) : Int) - ((0 : Nat) : Int) = Builtin.Range.rangeSize lo hi 1 := by rw [rangeSize_one]; split <;> omega
    show IsRangeIter _ _ (lo + ((0 : Nat) : Int) * 1) ((((hi - lo).toNat : Nat) : Int) - ((0 : Nat) : Int)) 1
    rw [e1, e2]
    exact Heap.get?_push_size _ rfl
  · have e : b = s1.heap.objs.size := by simpa using hb
    subst e
    exact I1.fpOk (Nat.le_refl _) (I1.hok.fresh (Nat.le_refl _))
theorem iv_rngN {tg iter : Expr} {lo hi : Int} (h : RM X p iter ρ (rngM lo hi) ρ1) (h1 : -(2 ^ 62) ≤ lo ∧ lo < 2 ^ 62 ∧ -(2 ^ 62) ≤ hi ∧ hi < 2 ^ 62) : IV X p tg iter ρ (rngD lo (hi - lo).toNat) ρ1 := by
  obtain ⟨t, pt, et⟩ := h
  refine ⟨_, pi_rngN pt, fun σ H B w F R k => et σ H B w F _ fun v H' B' w' s F' d => ?_⟩
  obtain ⟨r, rfl, hb⟩ := d
  exact ⟨r, lo, hi, rfl, F'.ext _ _ hb, h1.1, h1.2.1, h1.2.2.1, h1.2.2.2, k _ H' B' w' s F' walkd_rng⟩
/-! ### data compared -/
def rLtD (K : PySem.W.Frag) : R2 := fun x y H Q => ∃ d e, Dp K H x d ∧ Dp K H y e ∧ PySem.W.alike d e = true ∧ d ≠ .none ∧ min d.depth e.depth ≤ 60 ∧ Q (.bl (PySem.W.dataLt d e)) H
theorem op_ltD (hu : X.A.units + 64 < cLine) : OpR X (compareOp .Lt) (rLtD X.K) := by
  intro pins s σ H x y v u Q I rx ry h
  obtain ⟨d, e, hd, he, sd, sn, hdep, q⟩ := h
  obtain ⟨as, r1⟩ := Dp.reads I d x v hd rx
  obtain ⟨bs, r2⟩ := Dp.reads I e y u he ry
  exact PySem.W.lt_data r1 r2 sd sn (by omega) ⟨.bl _, H, I, rfl, q⟩
theorem ov_ltD {z u : PyData} {ra rb : Rs} (hu : X.A.units + 64 < cLine) (ha : Dv ρ ra z) (hb : Dv ρ rb u) (sz : PySem.W.alike z u = true) (sn : z ≠ .none) (hdep : min z.depth u.depth ≤ 60) : OpV X p (compareOp .Lt) ra rb ρ (.da (.bool (PySem.W.dataLt z u))) :=
  opv_now (op_ltD hu) fun σ H B w x y H0 F s ia ib => ⟨.bl _, .bl _, fun Q q => ⟨z, u, dv_ok F ia ha, dv_ok F ib hb, sz, sn, hdep, q⟩⟩
/-! ### the least of data -/
theorem minD_is {m : PyData} : ∀ (xs : List PyData) (x : PyData), m ∈ x :: xs → (∀ d ∈ x :: xs, d ≠ m → PySem.W.dataLt m d = true ∧ PySem.W.dataLt d m = false) → PySem.W.minD x xs = m
  | [], x, hm, _ => by
    rcases List.mem_cons.mp hm with rfl | h
    · rfl
    · cases h
  | y :: xs, x, hm, h => by
    show PySem.W.minD (if PySem.W.dataLt y x = true then y else x) xs = m
    by_cases hxm : x = m
    · subst hxm
      have e : (if PySem.W.dataLt y x = true then y else x) = x := by
        by_cases hy : y = x
        · subst hy
          split <;> rfl
        · rw [(h y (.tail _ (.head _)) hy).2]
          exact if_neg (by decide)
      rw [e]
      exact minD_is xs x (.head _) fun d hd => h d (by rcases List.mem_cons.mp hd with rfl | hd; exact .head _; exact .tail _ (.tail _ hd))
    · by_cases hym : y = m
      · subst hym
        rw [(h x (.head _) hxm).1, if_pos rfl]
        exact minD_is xs y (.head _) fun d hd => h d (.tail _ hd)
      · have hmx : m ∈ xs := by
          rcases List.mem_cons.mp hm with e | hm
          · exact absurd e.symm hxm
          · rcases List.mem_cons.mp hm with e | hm
            · exact absurd e.symm hym
            · exact hm
        refine minD_is xs _ (.tail _ hmx) fun d hd => ?_
        rcases List.mem_cons.mp hd with rfl | hd
        · intro hne
          split
          · rename_i hc
            rw [if_pos hc] at hne
            exact h y (.tail _ (.head _)) hne
          · rename_i hc
            rw [if_neg hc] at hne
            exact h x (.head _) hne
        · exact h d (.tail _ (.tail _ hd))
/-- min of a list of alike data: which item it is -/
theorem minL_raw {prog : Program} {w : World} {A : Around} {E : Value → Shared → Prop} {s : Shared} {l : Addr} {vs : Array Value} {x : PyData} {xs : List PyData} {as : List Addr} {Q : Value → Shared → Prop} (hh : A.handled = none) (hl : s.heap.IsList l vs) (hr : ReadsAll s.heap vs.toList (x :: xs) as) (ha : PySem.W.AlikeAll (x :: xs)) (hu : A.units + 1 + PyData.depthAll (x :: xs) < cLine)
    (h : ∀ v h' tk, vs[argBest (fun i j => PySem.W.dataLt ((x :: xs).getD i .none) ((x :: xs).getD j .none)) xs.length]? = some v → (∀ b o, s.heap.get? b = some o → h'.get? b = some o) → Q v { s with heap := h', toks := tk }) :
    wpAny (model prog w) A (call (.builtin "min") [.ref l]) Q E s := by
  have hn : vs.size = xs.length + 1 := PySem.W.readsAll_len hr
  refine PySem.call_min_walkH (PySem.W.iter_listW (A := A.in1) hh hl fun s₂ e W st hfp hw hk => ?_)
  refine ⟨_, _, _, _, _, _, _, s.heap, _, rfl, W, st, hfp, by omega, hw, hk, PySem.W.cmpIn_lt (A := A.in1) hr ha (by show A.units + 1 + _ < _; exact hu), fun v s' hP m => ?_⟩
  obtain ⟨h', tk, rfl, hk'⟩ := PySem.W.moved_old e rfl m
  have e1 : vs.size - 1 = xs.length := by omega
  rw [e1] at hP
  exact h v h' tk hP hk'
theorem alikeAll_get {x : PyData} {xs : List PyData} : (x :: xs).getD (argBest (fun i j => PySem.W.dataLt ((x :: xs).getD i .none) ((x :: xs).getD j .none)) xs.length) .none = PySem.W.minD x xs := by
  have e2 := (PySem.W.argBest_fold PySem.W.dataLt PyData.none x xs xs.length (Nat.le_refl _)).2
  rw [List.take_length] at e2
  exact e2
def rMinD (K : PySem.W.Frag) : List V → Hp → VK → Prop := fun vs H Q => ∃ (a : Addr) (us : List V) (x : PyData) (xs : List PyData), vs = [V.ref a] ∧ SqL K H a us ∧ DpAll K H us (x :: xs) ∧ PySem.W.AlikeAll (x :: xs) ∧ PyData.depthAll (x :: xs) ≤ 60 ∧
  ∀ v, us[argBest (fun i j => PySem.W.dataLt ((x :: xs).getD i .none) ((x :: xs).getD j .none)) xs.length]? = some v → Q v H
theorem vals_back : ∀ {xs : List V} {us : List Value} {i : Nat} {u : Value}, Vals xs us → us[i]? = some u → ∃ x, xs[i]? = some x ∧ RelV x u
  | _, _, _, _, .nil, e => by simp at e
  | _, _, 0, _, .cons r _, e => by simp at e; subst e; exact ⟨_, rfl, r⟩
  | _, _, i + 1, x, .cons _ t, e => by
    obtain ⟨y, h1, h2⟩ := vals_back t (i := i) (by simpa using e)
    exact ⟨y, by simpa using h1, h2⟩
theorem cr_minD (hc : X.calm = true) (hu : X.A.units + 64 < cLine) : CallR X (.builtin "min") (rMinD X.K) := by
  intro pins s σ H vs us Q I r h
  obtain ⟨a, ws, x, xs, rfl, hs, hd, hal, hdep, q⟩ := h
  obtain ⟨its, rv, hl, _⟩ := I.list hs
  rw [Vals.ref1 r]
  obtain ⟨as, ra⟩ := Dp.readsAll I (x :: xs) ws its hd rv
  refine minL_raw (I.ok.hd hc) hl.isList (as := as) (by rw [List.toList_toArray]; exact ra) hal (by omega) fun v h' tk hv hk => ?_
  rw [List.getElem?_toArray] at hv
  obtain ⟨y, hy, ry⟩ := vals_back rv hv
  exact ⟨y, H, I.kept hk, ry, q y hy⟩
theorem cv_minD {m : PyData} {ds : List PyData} {ra : Rs} (hc : X.calm = true) (hu : X.A.units + 64 < cLine) (hv : Vw ρ ra false ds) (hal : PySem.W.AlikeAll ds) (hdep : PyData.depthAll ds ≤ 60) (hm : m ∈ ds) (hlt : ∀ d ∈ ds, d ≠ m → PySem.W.dataLt m d = true ∧ PySem.W.dataLt d m = false) : CalV X p (.builtin "min") [ra] ρ (.da m) :=
  ⟨_, cr_minD hc hu, fun σ H B w vs H0 F i Q k => by
    obtain ⟨v, rfl, i1⟩ := itvs1 i
    obtain ⟨l, us, rfl, sq, d⟩ := vw_ok F i1 hv
    cases ds with
    | nil => cases hm
    | cons x xs =>
      refine ⟨l, us, x, xs, rfl, sq, dpa_mono F.ext d, hal, hdep, fun y hy => ?_⟩
      obtain ⟨z, hz, dz⟩ := dpa_get' d hy
      have e : z = m := by
        have h1 := alikeAll_get (x := x) (xs := xs)
        rw [List.getD_eq_getElem?_getD, hz] at h1
        have h1 : z = PySem.W.minD x xs := h1
        rw [h1]
        exact minD_is xs x hm hlt
      subst e
      exact k y H B w Stp.refl F dz⟩
end
end Dn

set_option Elab.async false
set_option linter.all false
set_option maxRecDepth 100000
set_option maxHeartbeats 2000000
namespace Bf
open PySem
/-- the least sums, where there is no ring and all places are reached day by day -/
def lsG (steps : List St) (n : Nat) (v : Nat) : Int := ((solS steps (n + 1)).su.getD v none).getD 0
structure LsG (steps : List St) (n : Nat) : Prop where
  su : (solS steps (n + 1)).su = (List.range (n + 1)).map fun v => some (lsG steps n v)
  pot : Pot steps (lsG steps n)
  z0 : lsG steps n 0 = 0
  least : ∀ y, Pot steps y → ∀ v, v ≤ n → lsG steps n v ≤ y v - y 0
  pos : ∀ v, v ≤ n → 0 ≤ lsG steps n v
theorem ls_gen {steps : List St} {n : Nat} (ok : Ok steps (n + 1)) (hd : ∀ v, v < n → ∃ st ∈ steps, st.b = v ∧ st.e = v + 1 ∧ st.m = 0) (h : solT steps (n + 1) ≤ n + 1) : LsG steps n := by
  have hh := sol_holds ok h
  obtain ⟨x0, q0, p0⟩ := sol_0 ok
  obtain ⟨l1, _⟩ := sol_len ok
  have all : ∀ v, v ≤ n → ∃ x, (solS steps (n + 1)).su.getD v none = some x ∧ 0 ≤ x := by
    intro v
    induction v with
    | zero => exact fun _ => ⟨x0, q0, p0⟩
    | succ v ih =>
      intro hv
      obtain ⟨x, hx, px⟩ := ih (by omega)
      obtain ⟨st, a, rfl, e2, e3⟩ := hd v (by omega)
      obtain ⟨y, hy, hle⟩ := hh _ a x hx
      rw [e2] at hy
      exact ⟨y, hy, by omega⟩
  have hX : ∀ v, v ≤ n → (solS steps (n + 1)).su.getD v none = some (lsG steps n v) := fun v hv => by
    obtain ⟨x, hx, _⟩ := all v hv
    unfold lsG
    rw [hx]
    rfl
  have pot : Pot steps (lsG steps n) := fun st hst => by
    have hb := ok.b st hst
    obtain ⟨y, hy, hle⟩ := hh st hst _ (hX st.b (by omega))
    rw [hX st.e (by have := ok.e st hst; omega)] at hy
    cases hy
    exact hle
  have least : ∀ y, Pot steps y → ∀ v, v ≤ n → lsG steps n v ≤ y v - y 0 := fun y hy v hv => sol_P ok hy (hX v hv)
  have pos : ∀ v, v ≤ n → 0 ≤ lsG steps n v := fun v hv => by
    obtain ⟨x, hx, px⟩ := all v hv
    rw [hX v hv] at hx
    cases hx
    exact px
  refine ⟨List.ext_getElem? fun i => ?_, pot, ?_, least, pos⟩
  · by_cases hi : i < n + 1
    · have := hX i (by omega)
      rw [List.getD_eq_getElem?_getD, List.getElem?_eq_getElem (by omega)] at this
      rw [List.getElem?_eq_getElem (by omega), List.getElem?_map, List.getElem?_range hi]
      exact congrArg some this
    · rw [List.getElem?_eq_none (by omega), List.getElem?_eq_none (by rw [List.length_map, List.length_range]; omega)]
  · have a := least _ pot 0 (by omega)
    have b := pos 0 (by omega)
    omega
end Bf
namespace Dn
open PySem PySem.Spec PySem.W PySem.Calls PyProof.Rows L2 LamX
theorem dataLt_tints (a b : List Int) : PySem.W.dataLt (.tuple (a.map .int)) (.tuple (b.map .int)) = decide (a < b) := by
  have h := congrFun (congrFun (dataLe_tups (fun x : List Int => x)) b) a
  rw [PySem.W.dataLe_eq] at h
  have h : (!PySem.W.dataLt (.tuple (a.map .int)) (.tuple (b.map .int))) = decide (b ≤ a) := h
  have h2 : decide (b ≤ a) = !decide (a < b) := by
    by_cases z : a < b
    · rw [decide_eq_true z, decide_eq_false (by exact fun q => q z)]
      rfl
    · rw [decide_eq_false z, decide_eq_true (by exact z)]
      rfl
  rw [h2] at h
  exact Bool.not_inj h
theorem alike_tints (a b : List Int) : PySem.W.alike (.tuple (a.map .int)) (.tuple (b.map .int)) = true := by
  unfold PySem.W.alike
  exact PySem.W.alike_ints _ _
/-- a number and ints, compared -/
theorem dataLt_nt (x y : Int) (a b : List Int) : PySem.W.dataLt (.tuple [.int x, .tuple (a.map .int)]) (.tuple [.int y, .tuple (b.map .int)]) = if x = y then decide (a < b) else decide (x < y) := by
  rw [PySem.W.dataLt_pair (by rfl) (alike_tints a b), PySem.W.dataLt_int, dataLt_tints, eqvT_ints]
  by_cases e : x = y
  · subst e
    rw [if_pos rfl, if_pos (by simp [PyData.eqv])]
    by_cases e2 : a = b
    · subst e2
      simp
    · rw [if_neg (by simp [e2])]
  · rw [if_neg e, if_neg (by simp [PyData.eqv, e])]
end Dn

set_option Elab.async false
set_option linter.all false
set_option maxRecDepth 100000
set_option maxHeartbeats 2000000
/-! sorted(set), any number of members -/
namespace Dn
open PySem PySem.Spec PySem.Calls PyProof.Rows L2 SrtO
section
variable {P : Program} {w : World} {A : Around} {s : Shared} {a : Addr} {E : Value → Shared → Prop}
theorem sorted_setW {S : Int → Bool} {n : Nat} {Q : Value → Shared → Prop} (R : SetR w s.heap a S n) (hh : A.handled = none) (hz0 : n ≤ 4000)
    (hQ : ∀ s' p (out : Array Value) (c : Nat) (ns : List Int), (∀ b o, s.heap.get? b = some o → s'.heap.get? b = some o) → s'.gens = s.gens → s'.os = s.os → s.heap.objs.size ≤ p →
      s'.heap.get? p = some (seqObj "list" out c) → IntsAre out.toList ns → ns.Pairwise (· < ·) → (∀ k, k ∈ ns ↔ S k = true) → ns.length = n → Q (.ref p) s') :
    wpAny (model P w) A (call (.builtin "sorted") [.ref a]) Q E s := by
  obtain ⟨o, es, ep, t, ho, hex, hd, g, nd, hm, hb, hf, hn, hr, hl⟩ := R
  refine Calls.call_function_entry kind_sorted plain_sorted entry_sorted (args_sorted1 _) ?_
  unfold Builtin.«sorted»
  refine wpAny_bind (m := checkCount "sorted" 1 1 _) (wpAny_pure ?_)
  refine wpAny_bind (collect_set (A := A.in1) hh ⟨o, ho, hex.1, hd⟩ hf hb hr hl fun s1 vs k1 hz g1 o1 pm => ?_)
  have hvl : vs.length = n := by rw [pm.length_eq, List.length_map, Array.length_toList]; exact hn
  have hI : IntsAre vs (vs.map Builtin.Re.reRawOf) := ints_of vs fun v hv => by
    obtain ⟨e, he, q⟩ := List.mem_map.mp (pm.mem_iff.mp hv)
    obtain ⟨k, tk, h1, _⟩ := g e he
    exact ⟨k, tk, by rw [← q]; exact h1⟩
  have pk : (vs.map Builtin.Re.reRawOf).Perm (es.toList.map keyOf) := by
    have q := pm.map Builtin.Re.reRawOf
    rw [List.map_map] at q
    exact q
  have hzz : vs.length ≤ sizeLine := by rw [hvl, sizeLine_eq]; omega
  refine wpAny_bind (wpAny_newList ?_ hzz)
  have hoL : (s1.heap.push (seqObj "list" vs.toArray 0)).get? s1.heap.objs.size = some (seqObj "list" vs.toArray 0) := Heap.get?_push_size _ rfl
  refine wpAny_bind (wpAny_holding (wpAny_call_entry slot_list_sort ⟨_, hoL, rfl⟩ entry_list_sort (list_sort_ord swo_int hoL hzz (fun h2 => ints_sortable hI h2) fun out h1 h2 => ⟨_, rfl, ?_⟩) (args_list_sort _)))
  obtain ⟨c1, c2, c3⟩ := ints_out hI h1 h2
  obtain ⟨c, hc⟩ := sortedHeap_at (vs := vs) (out := out.toArray) hoL
  have pn : (out.map iv).Perm (es.toList.map keyOf) := c2.trans pk
  refine wpAny_pure ⟨_, rfl, hQ _ s1.heap.objs.size out.toArray c (out.map iv) (fun b u e => ?_) g1 o1 hz hc c1 (lt_of_le_nodup _ c3 (pn.nodup_iff.mpr nd)) (fun k => by rw [pn.mem_iff, ← hm k]) ?_⟩
  · have q := k1 b u e
    have hlt := Heap.lt_size q
    show (sortedHeap (s1.heap.push (seqObj "list" vs.toArray 0)) s1.heap.objs.size vs out.toArray).get? b = some u
    rw [sortedHeap_old (Nat.ne_of_lt hlt) (by rw [size_push']; exact Nat.lt_succ_of_lt hlt)]
    exact Heap.get?_push_of_some _ q
  · rw [pn.length_eq, List.length_map, Array.length_toList]; exact hn
end
def rSortedSetW (w : World) : List V → Hp → VK → Prop := fun vs H Q => ∃ (a : Addr) (S : Int → Bool) (n : Nat), vs = [V.ref a] ∧ H a = some (SetO w a S n) ∧ n ≤ 4000 ∧
  ∀ (ns : List Int) (p : Addr), ns.Pairwise (· < ·) → (∀ k : Int, k ∈ ns ↔ S k = true) → ns.length = n → H p = none → Q (.ref p) (upd H p (.lst (ns.map V.int)))
section
variable {X : Cx} {p : Pm} {ρ ρ1 : Rho} {r : Rs}
theorem cr_sortedSetW (hc : X.calm = true) : CallR X (.builtin "sorted") (rSortedSetW X.w) := by
  intro pins s σ H vs us Q I r h
  obtain ⟨a, S, n, rfl, ha, h64, q⟩ := h
  have R := setO_get I ha
  rw [Vals.ref1 r]
  refine sorted_setW R (I.ok.hd hc) h64 fun s' p out c ns k g o hp hg hi hs hm hl => ?_
  have hlen : (ns.map V.int).length ≤ sizeLine := by rw [List.length_map, hl, sizeLine_eq]; omega
  have hn : H p = none := I.hok.fresh hp
  have J : L2.Inv X pins σ (upd H p (.lst (ns.map V.int))) { s with heap := s'.heap, gens := s'.gens, drawn := s'.drawn, toks := s'.toks } :=
    I.call (ch := []) (Un.laid k hp hn) (I.hok.laid k hp ⟨hlen, out.toList, c, vals_of_ints hi, hg⟩) (by rw [g]; exact I.bare) (fun _ z => nomatch z)
  have e : s' = { s with heap := s'.heap, gens := s'.gens, drawn := s'.drawn, toks := s'.toks } := by
    cases s'
    cases s
    cases o
    rfl
  rw [e]
  exact ⟨.ref p, _, J, rfl, q ns p hs hm hl hn⟩
/-- sorted(set(e)), up to 4000 -/
theorem rv_sortSetW {a : Expr} {t : Bool} {ns out : List Int} {pp p2 q pos : Pos} (h : RV X p a ρ r ρ1) (hv : Vw ρ1 r t (ns.map .int)) (hl : ns.length ≤ 4000) (ho : out.Pairwise (· < ·)) (hmem : ∀ k, k ∈ out ↔ k ∈ ns) (hms : X.mg "sorted" = none) (hm : X.mg "set" = none) (hc : X.calm = true := by rfl) (hgs : Gl X "sorted" := by rfl) (hg : Gl X "set" := by rfl)
    (he : starEach [a] X.env = (false, eval a X.env) :: starEach [] X.env := by rfl) (hpl : (backTo q (starEach [] X.env)).any (·.1) = false := by rfl)
    (he2 : starEach [.Call (.Name "set" p2) [a] [] q] X.env = (false, eval (.Call (.Name "set" p2) [a] [] q) X.env) :: starEach [] X.env := by rfl) (hpl2 : (backTo pos (starEach [] X.env)).any (·.1) = false := by rfl) :
    RV X p (.Call (.Name "sorted" pp) [.Call (.Name "set" p2) [a] [] q] [] pos) ρ (.li (out.map .int)) ρ1 := by
  obtain ⟨ts, ps, es⟩ := set_step h hv (by omega) p2 q hc hm hg he hpl
  refine ⟨_, pe_callB (cr_sortedSetW hc) hgs hms (by decide +kernel) (pa_cons ps pa_nil he2) (by decide) (by decide) he2 hpl2, fun σ H B w F Q k => es σ H B w F _ fun b c H1 B1 w1 s1 F1 hb mn hc' => ?_⟩
  refine ⟨b, _, c, rfl, hb, by omega, fun ns2 l hs2 hm2 hl2 hn => ?_⟩
  have e : ns2 = out := by
    refine List.Perm.eq_of_pairwise (le := (· < ·)) (fun x y _ _ h1 h2 => by omega) hs2 ho ((List.perm_ext_iff_of_nodup (hs2.imp fun h => Int.ne_of_lt h) (ho.imp fun h => Int.ne_of_lt h)).mpr fun k => ?_)
    rw [hm2 k, decide_eq_true_eq, hmem]
  rw [e]
  obtain ⟨s2, F2, i2⟩ := new_lst (T := p.T) F1 hn (dpa_of_ints (K := X.K) (H := B1) out)
  exact k _ _ _ _ (s1.trans s2) F2 (i2.back s1)
end
end Dn

set_option Elab.async false
set_option linter.all false
set_option maxRecDepth 100000
set_option maxHeartbeats 3200000
/-! a dict with tuples of numbers and texts as keys, made once and only read: what stands there -/
namespace Dn
open PySem PySem.Spec PySem.Calls PyProof.Rows L2
abbrev TK (P : Program) (w : World) := tupleKind (mixKind P w)
/-- the object alone: its entries, by addresses of keys -/
def DicO (P : Program) (w : World) (a : Addr) (ps : List (List L2.Key × Addr × V)) : HO := .ext fun h => ∃ xs : List (List L2.Key × Addr × Value), Paired (fun (p : List L2.Key × Addr × V) (q : List L2.Key × Addr × Value) => p.1 = q.1 ∧ p.2.1 = q.2.1 ∧ RelV p.2.2 q.2.2) ps xs ∧
  ∃ o es ep, h.get? a = some o ∧ o.ExactDict ∧ o.data = .dict es ep ∧ es.toList = xs.map (entryOfKey (TK P w)) ∧ (xs.map (·.1)).Nodup
section
variable {X : Cx} {pins : List (Addr × Obj)} {σ : L2.St} {H : Hp} {s : Shared} {a b : Addr}
theorem key_sq {ks : List L2.Key} (I : L2.Inv X pins σ H s) (h : SqT X.K H b (ks.map kV)) : (TK X.prog X.w).is s.heap ks b := by
  obtain ⟨its, r, ⟨o, h1, h2, n, h3⟩, _⟩ := I.tuple h
  exact ⟨o, its.toArray, n, h1, h2, h3, by simpa using items_are r⟩
theorem paired_get {α β : Type} {R : α → β → Prop} : ∀ {l : List α} {m : List β}, Paired R l m → ∀ {i : Nat} {x : α}, l[i]? = some x → ∃ y, m[i]? = some y ∧ R x y
  | _, _, .nil, _, _, h => by cases h
  | _, _, .cons r t, 0, _, h => by
    cases h
    exact ⟨_, rfl, r⟩
  | _, _, .cons r t, i + 1, _, h => paired_get t h
theorem paired_back {α β : Type} {R : α → β → Prop} : ∀ {l : List α} {m : List β}, Paired R l m → ∀ {i : Nat} {y : β}, m[i]? = some y → ∃ x, l[i]? = some x ∧ R x y
  | _, _, .nil, _, _, h => by cases h
  | _, _, .cons r t, 0, _, h => by
    cases h
    exact ⟨_, rfl, r⟩
  | _, _, .cons r t, i + 1, _, h => paired_back t h
theorem paired_len {α β : Type} {R : α → β → Prop} : ∀ {l : List α} {m : List β}, Paired R l m → l.length = m.length
  | _, _, .nil => rfl
  | _, _, .cons r t => by rw [List.length_cons, List.length_cons, paired_len t]
theorem dic_get {ps : List (List L2.Key × Addr × V)} (I : L2.Inv X pins σ H s) (h : H a = some (DicO X.prog X.w a ps)) (hk : ∀ p ∈ ps, SqT X.K H p.2.1 (p.1.map kV)) : ∃ kvs : List (List L2.Key × Value), s.heap.DictKeyed (TK X.prog X.w) a kvs ∧ Paired (fun (p : List L2.Key × Addr × V) (q : List L2.Key × Value) => p.1 = q.1 ∧ RelV p.2.2 q.2) ps kvs := by
  obtain ⟨⟨xs, pr, o, es, ep, h1, h2, h3, h4, h5⟩, hrest⟩ := (show ObjOk X.prog X.w H s.heap a (DicO X.prog X.w a ps) from I.hok a _ h)
  refine ⟨pairsH xs, ⟨xs, ⟨o, es, ep, h1, h2, h3, h4, fun x hx => ?_, h5⟩, rfl⟩, ?_⟩
  · obtain ⟨i, hi⟩ := List.getElem?_of_mem hx
    obtain ⟨p, hp, e1, e2, _⟩ := paired_back pr hi
    rw [← e1, ← e2]
    exact key_sq I (hk p (List.mem_of_getElem? hp))
  · clear h4 h5 h hk hrest
    induction pr with
    | nil => exact .nil
    | cons r t ih => exact .cons ⟨r.1, r.2.2⟩ ih
def lookP (ps : List (List L2.Key × Addr × V)) (k : List L2.Key) : Option V := (ps.find? fun p => decide (p.1 = k)).map (·.2.2)
theorem look_rel {ps : List (List L2.Key × Addr × V)} {kvs : List (List L2.Key × Value)} (pr : Paired (fun (p : List L2.Key × Addr × V) (q : List L2.Key × Value) => p.1 = q.1 ∧ RelV p.2.2 q.2) ps kvs) (k : List L2.Key) : (lookP ps k).isSome = (valueAt kvs k).isSome ∧ ∀ v, lookP ps k = some v → ∃ u, valueAt kvs k = some u ∧ RelV v u := by
  induction pr with
  | nil => exact ⟨rfl, fun v h => by cases h⟩
  | @cons p q ps kvs r t ih =>
    unfold lookP valueAt at ih ⊢
    rw [List.find?_cons, List.find?_cons, ← r.1]
    by_cases e : p.1 = k
    · rw [decide_eq_true e]
      exact ⟨rfl, fun v h => by cases h; exact ⟨_, rfl, r.2⟩⟩
    · rw [decide_eq_false e]
      exact ih
/-- d[k], a key that is there -/
theorem ix_dic (hu : X.A.units + 1 < cLine) : IxR X (fun x y H Q => ∃ (a b : Addr) (ps : List (List L2.Key × Addr × V)) (k : List L2.Key) (v : V), x = V.ref a ∧ y = V.ref b ∧ H a = some (DicO X.prog X.w a ps) ∧ (∀ p ∈ ps, SqT X.K H p.2.1 (p.1.map kV)) ∧ SqT X.K H b (k.map kV) ∧ lookP ps k = some v ∧ Q v H) := by
  intro value slice pins s σ H x y v u Q I rx ry h hs
  obtain ⟨a, b, ps, k, vv, rfl, rfl, h1, h2, h3, h4, q⟩ := h
  cases rx
  cases ry
  obtain ⟨kvs, hm, pr⟩ := dic_get I h1 h2
  obtain ⟨uu, h5, h6⟩ := (look_rel pr k).2 vv h4
  exact tail_any hm.typeIs PySem.F.slot_dict_getitem.lookup (getItem_keyed (tupleKind_room_in1 hu) (key_sq I h3) hm h5 ⟨vv, H, I.tok _, h6, q⟩) hs
/-- k in d -/
theorem op_dicIn (hu : X.A.units + 1 < cLine) : OpR X (compareOp .In) (fun x y H Q => ∃ (a b : Addr) (ps : List (List L2.Key × Addr × V)) (k : List L2.Key), x = V.ref b ∧ y = V.ref a ∧ (a == sysModules) = false ∧ H a = some (DicO X.prog X.w a ps) ∧ (∀ p ∈ ps, SqT X.K H p.2.1 (p.1.map kV)) ∧ SqT X.K H b (k.map kV) ∧ Q (.bl (lookP ps k).isSome) H) := by
  intro pins s σ H x y v u Q I rx ry h
  obtain ⟨a, b, ps, k, rfl, rfl, hd, h1, h2, h3, q⟩ := h
  cases rx
  cases ry
  obtain ⟨kvs, hm, pr⟩ := dic_get I h1 h2
  refine in_keyed (tupleKind_room_in1 hu) (key_sq I h3) hd hm ⟨.bl (lookP ps k).isSome, H, I.tok _, ?_, q⟩
  rw [(look_rel pr k).1]
  rfl
theorem atKey_none {K : Type} [DecidableEq K] {xs : List (K × Addr × Value)} {k : K} (h : k ∉ xs.map (·.1)) : atKey xs k = none := by
  unfold atKey
  rw [List.find?_eq_none.mpr]
  · rfl
  · intro x hx
    simp only [decide_eq_true_eq]
    exact fun e => h (e ▸ List.mem_map.mpr ⟨x, hx, rfl⟩)
theorem storedAll_new {K : Type} [DecidableEq K] : ∀ (ps acc : List (K × Addr × Value)), ((acc ++ ps).map (·.1)).Nodup → storedAllH acc ps = acc ++ ps
  | [], acc, _ => by rw [List.append_nil]; rfl
  | p :: ps, acc, h => by
    have h1 : p.1 ∉ acc.map (·.1) := by
      rw [List.map_append, List.nodup_append] at h
      intro q
      exact h.2.2 _ q _ (List.mem_map.mpr ⟨p, .head _, rfl⟩) rfl
    show storedAllH (storedH acc p.1 p.2.1 p.2.2) ps = _
    rw [storedH_new (atKey_none h1), storedAll_new ps (acc ++ [(p.1, p.2.1, p.2.2)]) (by rw [List.append_assoc]; exact h), List.append_assoc]
    rfl
/-- dict(l), l a list of pairs with unlike tuples as keys -/
theorem cr_dic (hc : X.calm = true) (hu : X.A.units + 3 < cLine) : CallR X (.type "dict") (fun vs H Q => ∃ (a : Addr) (ts : List Addr) (ps : List (List L2.Key × Addr × V)), vs = [V.ref a] ∧ SqL X.K H a (ts.map V.ref) ∧ Paired (fun (t : Addr) (p : List L2.Key × Addr × V) => SqT X.K H t [.ref p.2.1, p.2.2] ∧ SqT X.K H p.2.1 (p.1.map kV)) ts ps ∧ (ps.map (·.1)).Nodup ∧ ∀ p, H p = none → (p == sysModules) = false → Q (.ref p) (upd H p (DicO X.prog X.w p ps))) := by
  intro pins s σ H vs us Q I r h
  obtain ⟨a, ts, ps, rfl, hs, hp, nd, q⟩ := h
  rw [Vals.ref1 r]
  obtain ⟨its, rv, pl, hz⟩ := I.list hs
  have ei := refs_at rv
  subst ei
  rw [List.length_map] at hz
  -- the pairs as values
  have key : ∀ {ts : List Addr} {ps : List (List L2.Key × Addr × V)}, Paired (fun (t : Addr) (p : List L2.Key × Addr × V) => SqT X.K H t [.ref p.2.1, p.2.2] ∧ SqT X.K H p.2.1 (p.1.map kV)) ts ps →
      ∃ xs : List (List L2.Key × Addr × Value), Paired (fun (p : List L2.Key × Addr × V) (q : List L2.Key × Addr × Value) => p.1 = q.1 ∧ p.2.1 = q.2.1 ∧ RelV p.2.2 q.2.2) ps xs ∧ ts.length = xs.length ∧ ∀ (j : Nat) (x : List L2.Key × Addr × Value), xs[j]? = some x → ∃ t, ts[j]? = some t ∧ s.heap.IsTuple t #[.ref x.2.1, x.2.2] ∧ (TK X.prog X.w).is s.heap x.1 x.2.1 := by
    intro ts ps h
    induction h with
    | nil => exact ⟨[], .nil, rfl, fun j x e => by cases e⟩
    | @cons t p ts ps r tl ih =>
      obtain ⟨xs, h1, h2, h3⟩ := ih
      obtain ⟨its, rv, ht, _⟩ := I.tuple r.1
      obtain ⟨u, y, e, ru, ry⟩ := vals2 rv
      subst e
      cases ru
      refine ⟨(p.1, p.2.1, y) :: xs, .cons ⟨rfl, rfl, ry⟩ h1, by rw [List.length_cons, List.length_cons, h2], fun j x e => ?_⟩
      cases j with
      | zero =>
        cases e
        exact ⟨t, rfl, ht, key_sq I r.2⟩
      | succ j => exact h3 j x e
  obtain ⟨xs, x1, x2, x3⟩ := key hp
  have ndx : (xs.map (·.1)).Nodup := by
    have e : xs.map (·.1) = ps.map (·.1) := by
      clear key x2 x3 hp nd q
      induction x1 with
      | nil => rfl
      | cons r t ih => rw [List.map_cons, List.map_cons, ih, r.1]
    rw [e]
    exact nd
  let prs : List (Value × Value) := xs.map fun x => (.ref x.2.1, x.2.2)
  have hprs : prs.length = ts.length := by rw [List.length_map, x2]
  have P := PairArg.list (prog := X.prog) (w := X.w) a (ts.map Value.ref).toArray (fun j => ts.getD j 0) prs
  have hpi : PairItems s.heap (ts.map Value.ref).toArray (fun j => ts.getD j 0) prs := by
    refine ⟨by simp [hprs], fun j k v e => ?_⟩
    rw [List.getElem?_map] at e
    obtain ⟨x, hx, e⟩ := Option.map_eq_some_iff.mp e
    cases e
    obtain ⟨t, h1, h2, _⟩ := x3 j x hx
    have e2 : ts.getD j 0 = t := by rw [List.getD_eq_getElem?_getD, h1]; rfl
    show (ts.map Value.ref).toArray[j]? = some (.ref (ts.getD j 0)) ∧ PairAt s.heap (ts.getD j 0) _ _
    rw [e2]
    exact ⟨by simp [h1], .inl h2⟩
  obtain ⟨o, n, ho, hcl, hdd, hdat⟩ := pl
  refine call_dict_pairsH (knd := TK X.prog X.w) (ps := xs) P (I.ok.hd hc) (by show X.A.units + 1 + 1 < cLine; omega) ⟨⟨o, n, ho, hcl, hdd, hdat⟩, hpi⟩ ⟨by rw [hprs, x2], fun i kv v e => ?_⟩ (fun h' hk x hx => ?_) (by rw [hprs]; exact hz) fun h' tk hd' k => ?_
  · have e : prs[i]? = some (kv, v) := e
    rw [List.getElem?_map] at e
    obtain ⟨x, hx, e⟩ := Option.map_eq_some_iff.mp e
    cases e
    exact ⟨x.1, x.2.1, by rw [hx], rfl⟩
  · obtain ⟨i, hi⟩ := List.getElem?_of_mem hx
    obtain ⟨t, _, _, h3⟩ := x3 i x hi
    exact tupleKind_stays.stays (fun b o vs m e _ => hk b o (Nat.ne_of_lt (Heap.lt_size e)) (fun z => nomatch z) e) h3
  · rw [storedAll_new xs [] ndx, List.nil_append] at hd'
    have hm : (s.heap.objs.size == sysModules) = false := beq_eq_false_iff_ne.mpr (Nat.ne_of_gt I.big)
    obtain ⟨o2, es, ep, d1, d2, d3, d4, d5, d6⟩ := hd'
    have ok : ObjOk X.prog X.w (upd H s.heap.objs.size (DicO X.prog X.w s.heap.objs.size ps)) h' s.heap.objs.size (DicO X.prog X.w s.heap.objs.size ps) :=
      ⟨⟨xs, x1, o2, es, ep, d1, d2, d3, d4, d6⟩, ⟨o2, d1⟩, fun h1 h2 ⟨xs', y1, o', es', ep', z1, z2⟩ kk => ⟨xs', y1, o', es', ep', kk _ z1, z2⟩⟩
    exact ⟨.ref s.heap.objs.size, upd H s.heap.objs.size (DicO X.prog X.w s.heap.objs.size ps), I.laid (t' := tk) (fun b o e => k b o (fun z => nomatch z) e) (Nat.le_refl _) ok, rfl, q _ (I.hok.fresh (Nat.le_refl _)) hm⟩
end
end Dn

set_option Elab.async false
set_option linter.all false
set_option maxRecDepth 100000
set_option maxHeartbeats 2000000
/-! dicts that are only read, over the layer; defs that take such things -/
namespace Dn
open PySem PySem.Spec PySem.Calls PyProof.Rows L2
def kD : L2.Key → PyData
  | .inl i => .int i
  | .inr z => .str z
theorem dpa_key {K : PySem.W.Frag} {B : Hp} : ∀ {ks : List L2.Key} {vs : List V}, DpAll K B vs (ks.map kD) → vs = ks.map kV
  | [], _, .nil => rfl
  | .inl i :: ks, _, .cons h t => by
    rw [dp_int h, dpa_key t]
    rfl
  | .inr i :: ks, _, .cons h t => by
    rw [dp_str h, dpa_key t]
    rfl
def dicM (P : Program) (w : World) (kd : List (List L2.Key × PyData)) : Mon := ⟨fun K B v => ∃ (a : Addr) (ps : List (List L2.Key × Addr × V)), v = .ref a ∧ (a == sysModules) = false ∧ B a = some (DicO P w a ps) ∧ Paired (fun (p : List L2.Key × Addr × V) (q : List L2.Key × PyData) => p.1 = q.1 ∧ SqT K B p.2.1 (p.1.map kV) ∧ Dp K B p.2.2 q.2) ps kd,
  fun e ⟨a, ps, h1, h2, h3, h4⟩ => ⟨a, ps, h1, h2, e _ _ h3, L2.Paired.mapP h4 fun p q r => ⟨r.1, same_t e r.2.1, dp_mono e r.2.2⟩⟩⟩
def lookD (kd : List (List L2.Key × PyData)) (k : List L2.Key) : Option PyData := (kd.find? fun q => decide (q.1 = k)).map (·.2)
theorem look_pd {K : PySem.W.Frag} {B : Hp} {ps : List (List L2.Key × Addr × V)} {kd : List (List L2.Key × PyData)} (h : Paired (fun (p : List L2.Key × Addr × V) (q : List L2.Key × PyData) => p.1 = q.1 ∧ SqT K B p.2.1 (p.1.map kV) ∧ Dp K B p.2.2 q.2) ps kd) (k : List L2.Key) :
    (lookP ps k).isSome = (lookD kd k).isSome ∧ ∀ z, lookD kd k = some z → ∃ v, lookP ps k = some v ∧ Dp K B v z := by
  induction h with
  | nil => exact ⟨rfl, fun z h => by cases h⟩
  | @cons p q ps kd r t ih =>
    unfold lookP lookD at ih ⊢
    rw [List.find?_cons, List.find?_cons, ← r.1]
    by_cases e : p.1 = k
    · rw [decide_eq_true e]
      exact ⟨rfl, fun z h => by cases h; exact ⟨_, rfl, r.2.2⟩⟩
    · rw [decide_eq_false e]
      exact ih
theorem pd_keys {K : PySem.W.Frag} {B H : Hp} (e : Same B H) {ps : List (List L2.Key × Addr × V)} {kd : List (List L2.Key × PyData)} (h : Paired (fun (p : List L2.Key × Addr × V) (q : List L2.Key × PyData) => p.1 = q.1 ∧ SqT K B p.2.1 (p.1.map kV) ∧ Dp K B p.2.2 q.2) ps kd) : ∀ p ∈ ps, SqT K H p.2.1 (p.1.map kV) := fun p hp => by
  obtain ⟨i, hi⟩ := List.getElem?_of_mem hp
  obtain ⟨q, _, r⟩ := paired_get h hi
  exact same_t e r.2.1
section
variable {X : Cx} {p : Pm} {ρ ρ1 ρ2 : Rho} {e a b : Expr} {es : List Expr} {pos : Pos} {er : Er} {kd : List (List L2.Key × PyData)}
/-- d[k] -/
theorem rv_dicAt {k : List L2.Key} {z : PyData} (hu : X.A.units + 64 < cLine) (ha : RM X p a ρ (dicM X.prog X.w kd) ρ1) (hb : RV X p b ρ1 (.da (.tuple (k.map kD))) ρ2) (hv : lookD kd k = some z) (hs : PlainIx b := by exact fun _ _ => rfl) : RV X p (.Subscript a b pos) ρ (.da z) ρ2 := by
  obtain ⟨ta, pa, ea⟩ := ha
  obtain ⟨tb, pb, eb⟩ := hb
  refine ⟨_, pe_ix (ix_dic (by omega)) pa pb hs, fun σ H B w F Q q => ea σ H B w F _ fun x H1 B1 w1 s1 F1 m1 => eb σ H1 B1 w1 F1 _ fun y H2 B2 w2 s2 F2 i2 => ?_⟩
  obtain ⟨d, ps, rfl, hd, h1, h2⟩ := (dicM X.prog X.w kd).mono s2.bb m1
  obtain ⟨c, us, rfl, sq, dk⟩ := dp_tup i2
  obtain rfl := dpa_key dk
  obtain ⟨v, h3, h4⟩ := (look_pd h2 k).2 z hv
  exact ⟨d, c, ps, k, v, rfl, rfl, F2.ext _ _ h1, pd_keys F2.ext h2, same_t F2.ext sq, h3, q v H2 B2 w2 (s1.trans s2) F2 h4⟩
/-- k in d -/
theorem rv_dicIn {k : List L2.Key} (hu : X.A.units + 64 < cLine) (ha : RV X p a ρ (.da (.tuple (k.map kD))) ρ1) (hb : RM X p b ρ1 (dicM X.prog X.w kd) ρ2) (hm : behindInMarks .In b = false := by first | exact nomark _ | rfl) : RV X p (.Compare a [.In] [b] pos) ρ (.da (.bool (lookD kd k).isSome)) ρ2 := by
  obtain ⟨ta, pa, ea⟩ := ha
  obtain ⟨tb, pb, eb⟩ := hb
  refine ⟨_, pe_cmpR (op_dicIn (by omega)) pa pb hm, fun σ H B w F Q q => ea σ H B w F _ fun x H1 B1 w1 s1 F1 i1 => eb σ H1 B1 w1 F1 _ fun y H2 B2 w2 s2 F2 m2 => ?_⟩
  obtain ⟨d, ps, rfl, hd, h1, h2⟩ := m2
  obtain ⟨c, us, rfl, sq, dk⟩ := dp_tup (dp_mono s2.bb i1)
  obtain rfl := dpa_key dk
  refine ⟨d, c, ps, k, rfl, rfl, hd, F2.ext _ _ h1, pd_keys F2.ext h2, same_t F2.ext sq, ?_⟩
  rw [(look_pd h2 k).1]
  exact q _ H2 B2 w2 (s1.trans s2) F2 (.bl _)
theorem dict_pairs {K : PySem.W.Frag} {B H : Hp} (s : Same B H) : ∀ {kd : List (List L2.Key × PyData)} {us : List V}, DpAll K B us (kd.map fun q => .tuple [.tuple (q.1.map kD), q.2]) →
    ∃ (ts : List Addr) (ps : List (List L2.Key × Addr × V)), us = ts.map V.ref ∧ Paired (fun (t : Addr) (p : List L2.Key × Addr × V) => SqT K H t [.ref p.2.1, p.2.2] ∧ SqT K H p.2.1 (p.1.map kV)) ts ps ∧ Paired (fun (p : List L2.Key × Addr × V) (q : List L2.Key × PyData) => p.1 = q.1 ∧ SqT K B p.2.1 (p.1.map kV) ∧ Dp K B p.2.2 q.2) ps kd
  | [], _, .nil => ⟨[], [], rfl, .nil, .nil⟩
  | q :: kd, _, .cons h t => by
    obtain ⟨ts, ps, rfl, h1, h2⟩ := dict_pairs s t
    obtain ⟨c, vs, rfl, sq, d⟩ := dp_tup h
    cases d with
    | cons d1 d =>
      cases d with
      | cons d2 d =>
        cases d
        obtain ⟨b, ws, rfl, sq2, d3⟩ := dp_tup d1
        obtain rfl := dpa_key d3
        exact ⟨c :: ts, (q.1, b, _) :: ps, rfl, .cons ⟨same_t s sq, same_t s sq2⟩ h1, .cons ⟨rfl, sq2, d2⟩ h2⟩
/-- dict(e), e a list of pairs with unlike keys -/
theorem rm_dict {pp : Pos} {ra : Rs} (hu : X.A.units + 64 < cLine) (hc : X.calm = true) (h : RV X p e ρ ra ρ1) (hv : Vw ρ1 ra false (kd.map fun q => .tuple [.tuple (q.1.map kD), q.2])) (nd : (kd.map (·.1)).Nodup) (hm : X.mg "dict" = none) (hg : Gl X "dict" := by rfl) (he : starEach [e] X.env = (false, eval e X.env) :: starEach [] X.env := by rfl) (hpl : (backTo pos (starEach [] X.env)).any (·.1) = false := by rfl) :
    RM X p (.Call (.Name "dict" pp) [e] [] pos) ρ (dicM X.prog X.w kd) ρ1 := by
  obtain ⟨t, pt, et⟩ := h
  refine ⟨_, pe_callTy (cr_dic hc (by omega)) hg hm (by decide +kernel) (pa_cons pt pa_nil he) (by decide) (by decide) he hpl, fun σ H B w F Q q => et σ H B w F _ fun v H1 B1 w1 s1 F1 i1 => ?_⟩
  obtain ⟨l, vs, rfl, sq, d⟩ := vw_ok F1 i1 hv
  obtain ⟨ts, ps, rfl, h1, h2⟩ := dict_pairs F1.ext d
  have nd2 : (ps.map (·.1)).Nodup := by
    have e : ps.map (·.1) = kd.map (·.1) := by
      clear h1 d sq i1 hv q nd
      induction h2 with
      | nil => rfl
      | cons r t ih => rw [List.map_cons, List.map_cons, ih, r.1]
    rw [e]
    exact nd
  refine ⟨l, ts, ps, rfl, sq, h1, nd2, fun n hn hs => ?_⟩
  obtain ⟨s2, F2⟩ := new_both F1 hn (DicO X.prog X.w n ps) (fun ps z => by cases z)
  exact q _ _ _ _ (s1.trans s2) F2 ⟨n, ps, rfl, hs, upd_same, L2.Paired.mapP h2 fun p q r => ⟨r.1, same_t s2.bb r.2.1, dp_mono s2.bb r.2.2⟩⟩
end
/-! ### defs that take data and other things -/
def DqAll (K : PySem.W.Frag) (B : Hp) : List V → List Dq → Prop := Paired (DpQ K B)
def spM (K : PySem.W.Frag) (T : List (Addr × Str)) (C : Addr) (fl : Str) (S : List Dq → Oc → Prop) : Sp := fun vs H Q E =>
  ∃ xs oc B, S xs oc ∧ Same B H ∧ LamX.Tabs T H ∧ (∀ a ps, B a ≠ some (.tbl ps)) ∧ DqAll K B vs xs ∧ match oc with
    | .ret r => ∀ v H' B' w', Stp T noW B H w' B' H' → Same B' H' → ItV K B' w' H' H [] v r → Q v H'
    | .err nm => ∀ d H' B' w', Stp T noW B H w' B' H' → Same B' H' → H' d = some (.xd [(fl, nm.val)]) → E (.ref C) (some d) H'
def startM (N : List Str) (xs : List Dq) : Rho := xs.map (fun x => some (.da x)) ++ List.replicate (N.length - xs.length) none
section
variable {K : PySem.W.Frag} {T : List (Addr × Str)}
theorem rl_startM {N : List Str} {vs : List V} {xs : List Dq} {B H : Hp} (s : Same B H) (ht : LamX.Tabs T H) (hn : ∀ a ps, B a ≠ some (.tbl ps)) (d : DqAll K B vs xs) : Rl K T noφ B noW H (L2.start N vs) (startM N xs) := by
  have hl := paired_len d
  refine ⟨s, ?_, fun a h => absurd rfl h, ht, hn, fun i v h => (nomatch h), fun i x h => ?_, fun i ys h => ?_, fun i O h => ?_⟩
  · unfold startM L2.start
    rw [List.length_append, List.length_append, List.length_map, List.length_map, List.length_replicate, List.length_replicate, hl]
  · have hi : i < xs.length := by
      by_cases hc : i < xs.length
      · exact hc
      · unfold startM at h
        rw [List.getElem?_append_right (by rw [List.length_map]; omega), List.getElem?_replicate] at h
        split at h
        · cases h
        · cases h
    unfold startM at h
    rw [List.getElem?_append_left (by rw [List.length_map]; exact hi), List.getElem?_map] at h
    obtain ⟨y, hy, e⟩ := Option.map_eq_some_iff.mp h
    cases e
    obtain ⟨v, hv, r⟩ := paired_back d hy
    refine ⟨v, ?_, r⟩
    unfold L2.start
    rw [List.getElem?_append_left (by rw [List.length_map, hl]; exact hi), List.getElem?_map, hv]
    rfl
  · exfalso
    unfold startM at h
    by_cases hi : i < xs.length
    · rw [List.getElem?_append_left (by rw [List.length_map]; exact hi), List.getElem?_map] at h
      obtain ⟨y, hy, e⟩ := Option.map_eq_some_iff.mp h
      cases e
    · rw [List.getElem?_append_right (by rw [List.length_map]; omega), List.getElem?_replicate] at h
      split at h
      · cases h
      · cases h
  · exfalso
    unfold startM at h
    by_cases hi : i < xs.length
    · rw [List.getElem?_append_left (by rw [List.length_map]; exact hi), List.getElem?_map] at h
      obtain ⟨y, hy, e⟩ := Option.map_eq_some_iff.mp h
      cases e
    · rw [List.getElem?_append_right (by rw [List.length_map]; omega), List.getElem?_replicate] at h
      split at h
      · cases h
      · cases h
variable {P : Program} {w0 : World} {mg : Str → Option Value} {base : Heap}
theorem ok_pureM {x qual : Str} {st : Stmt} {f : Addr} {fd : FuncData} {N ps : List Str} {k : Nat} {C : Addr} {fl : Str} {S : List Dq → Oc → Prop} (F : Fun K x qual st f fd) (Sc : FnScope N ps (defScope st)) (len : ∀ xs oc, S xs oc → xs.length = ps.length)
    (body : ∀ cdv A outer s H E, Room k (CxD P w0 K mg base N qual st f cdv A outer s H E).A → ∀ xs oc, S xs oc → ∃ so, RSs (CxD P w0 K mg base N qual st f cdv A outer s H E) ⟨T, noφ⟩ ⟨C, fl, E⟩ (defBody st) (startM N xs) so ∧ Fin oc so) :
    FnOk P w0 K mg base (L2.CX P w0) (k + 1) f fd ps (spM K T C fl S) := by
  refine F.okX Sc (fun vs H Q E h => ?_) (fun cdv A outer s H vs Q E hr h => ?_)
  · obtain ⟨xs, oc, B, hS, _, _, _, d, _⟩ := h
    rw [paired_len d]
    exact len xs oc hS
  · obtain ⟨xs, oc, B, hS, sB, ht, hnt, d, post⟩ := h
    obtain ⟨so, ⟨t, pt, et⟩, fin⟩ := body cdv A outer s H E hr xs oc hS
    refine ⟨t, pt, et (L2.start N vs) H B noW (rl_startM sB ht hnt d) _ ?_⟩
    cases fin with
    | nx => exact fun σ' H' B' w' st F' => post .non H' B' w' st F'.ext .non
    | da => exact fun v σ' H' B' w' st F' i => post v H' B' w' st F'.ext i
    | li => exact fun v σ' H' B' w' st F' i => post v H' B' w' st F'.ext i
    | @sl i zs ρ e =>
      intro v σ' H' B' w' st F' i1
      obtain ⟨l, us, h1, h2, h3, h4, h5⟩ := F'.own i zs e
      have i1' : σ'[i]? = some (some v) := i1
      rw [h1] at i1'
      obtain rfl : V.ref l = v := Option.some.inj (Option.some.inj i1')
      have hl : ¬ Live H l := by
        rcases st.ww l (by rw [h2]; simp) with z | z
        · exact absurd rfl z
        · exact z
      refine post (.ref l) H' B' (fun a => if a = l then none else w' a) ⟨st.bb, st.hh, st.th, st.nb, st.tb, st.nt, fun a h => ?_⟩ F'.ext ⟨l, us, rfl, hl, if_pos rfl, h3, h4, h5⟩
      by_cases ha : a = l
      · rw [if_pos ha] at h
        exact absurd rfl h
      · rw [if_neg ha] at h
        exact st.ww a h
    | er => exact fun d H' B' w' st e h => post d H' B' w' st e h
end
section
variable {X : Cx} {p : Pm} {ρ ρ1 ρ2 : Rho} {e : Expr} {es : List Expr} {pos : Pos} {er : Er}
/-- arguments, data and others -/
def RAM (X : Cx) (p : Pm) (es : List Expr) (ρ : Rho) (xs : List Dq) (ρ' : Rho) : Prop := ∃ t, PA X es t ∧
  ∀ σ H B w, Rl X.K p.T p.φ B w H σ ρ → ∀ Q : List V → Hp → Prop, (∀ vs H' B' w', Stp p.T w B H w' B' H' → Rl X.K p.T p.φ B' w' H' σ ρ' → DqAll X.K B' vs xs → Q vs H') → t σ H Q
theorem ram_nil : RAM X p [] ρ [] ρ := ⟨_, pa_nil, fun σ H B w F Q k => k [] H B w Stp.refl F .nil⟩
theorem ram_da {z : PyData} {xs : List Dq} (h : RV X p e ρ (.da z) ρ1) (t : RAM X p es ρ1 xs ρ2) (hs : starEach (e :: es) X.env = (false, eval e X.env) :: starEach es X.env := by rfl) : RAM X p (e :: es) ρ (.d z :: xs) ρ2 := by
  obtain ⟨te, pe, ee⟩ := h
  obtain ⟨ta, pa, ea⟩ := t
  exact ⟨_, pa_cons pe pa hs, fun σ H B w F Q k => ee σ H B w F _ fun v H1 B1 w1 s1 F1 i1 => ea σ H1 B1 w1 F1 _ fun vs H2 B2 w2 s2 F2 i2 => k _ H2 B2 w2 (s1.trans s2) F2 (.cons (dp_mono s2.bb i1) i2)⟩
theorem ram_mo {M : Mon} {xs : List Dq} (h : RM X p e ρ M ρ1) (t : RAM X p es ρ1 xs ρ2) (hs : starEach (e :: es) X.env = (false, eval e X.env) :: starEach es X.env := by rfl) : RAM X p (e :: es) ρ (.m M :: xs) ρ2 := by
  obtain ⟨te, pe, ee⟩ := h
  obtain ⟨ta, pa, ea⟩ := t
  exact ⟨_, pa_cons pe pa hs, fun σ H B w F Q k => ee σ H B w F _ fun v H1 B1 w1 s1 F1 i1 => ea σ H1 B1 w1 F1 _ fun vs H2 B2 w2 s2 F2 i2 => k _ H2 B2 w2 (s1.trans s2) F2 (.cons (M.mono s2.bb i1) i2)⟩
theorem rv_callM {n : Str} {k : Nat} {ps : List Str} {kbs : List (List Str × List Nat)} {C : Addr} {fl : Str} {S : List Dq → Oc → Prop} {xs : List Dq} {r : Rs} {pp : Pos} (D : Df X.prog X.w X.K X.mg X.base n k ps (spM X.K p.T C fl S) kbs) (hr : Room k X.A) (ha : RAM X p (e :: es) ρ xs ρ1) (hS : S xs (.ret r)) (hn : ∀ i, r ≠ .sl i := by exact fun _ h => nomatch h) (hg : Gl X n := by rfl)
    (hdb : (n == ("__debug__" : Str)) = false := by decide) (he : starEach (e :: es) X.env = (false, eval e X.env) :: starEach es X.env := by rfl) (hpl : (backTo pos (starEach es X.env)).any (·.1) = false := by rfl) :
    RV X p (.Call (.Name n pp) (e :: es) [] pos) ρ r ρ1 := by
  obtain ⟨f, fd, F, hm, hk, hb, _⟩ := D.ex
  obtain ⟨t, pt, et⟩ := ha
  refine ⟨_, pe_call (E := E0) F hr hg hm hk hb .nil passL pt hdb he hpl, fun σ H B w F0 Q k => et σ H B w F0 _ fun vs H1 B1 w1 s1 F1 i1 => ?_⟩
  show spM X.K p.T C fl S (vs ++ []) H1 Q E0
  rw [List.append_nil]
  refine ⟨xs, .ret r, B1, hS, F1.ext, F1.tabs, F1.nt, i1, fun v H2 B2 w2 s2 e2 i2 => ?_⟩
  obtain ⟨s3, F3⟩ := F1.after s2 e2
  exact k v H2 B2 w1 (s1.trans s3) F3 ((i2.after F1 hn).back s1)
end
end Dn

set_option Elab.async false
set_option linter.all false
set_option maxRecDepth 100000
set_option maxHeartbeats 3200000
/-! a comprehension whose tests change what stands in the slots (a roll in a test) -/
namespace Dn
open PySem PySem.Spec PySem.Calls PyProof.Rows L2 LamX
section
variable {X : Cx} {p : Pm} {er : Er} {so so' : So} {ρ ρ1 ρ2 ρ3 ρ4 : Rho} {a b c e tg iter elt : Expr} {es ifs : List Expr} {st : Stmt} {sts body orelse : List Stmt} {ra rb rc r : Rs} {rs : List Rs} {pos pos' pos2 : Pos}
variable {K : PySem.W.Frag} {T : List (Addr × Str)} {φ : Nat → Option V} {w w1 : Addr → Option Nat} {B B1 H H0 H1 : Hp} {σ σ1 : L2.St} {x y v : V} {vs : List V} {xs ys zs : List PyData} {q : Addr} {k1 k2 : Bool} {n : Str} {js : List Nat} {D : Ends} {i j : Nat} {z u : PyData}
def RTsS (X : Cx) (p : Pm) (es : List Expr) (ρ : Rho) (b : Bool) (ρ' : Rho) : Prop := ∃ t, PTs X es t ∧ EvT X.K p t ρ b ρ'
theorem rtss_one {e : Expr} {k1 : Bool} {ρ ρ1 : Rho} (h : RT X p e ρ k1 ρ1) : RTsS X p [e] ρ k1 ρ1 := by
  obtain ⟨t, pt, et⟩ := h
  exact ⟨_, pts_one pt, et⟩
theorem rc_lcS {scope : Scope} {own : List (Str × Nat)} (inv : Nat → Rho) (acc : Nat → List PyData) (hc : X.calm = true) (hN : X.N.Nodup) (h : IV X p tg iter ρ xs ρ1) (ok : BlkOk X.N X.env.scope scope own)
    (h0 : inv 0 = wipeR ρ1 (own.map (·.2))) (a0 : acc 0 = []) (hw : ∀ i j, j ∈ own.map (·.2) → ∀ d, (inv i)[j]? ≠ some (some d)) (hφ : ∀ j ∈ own.map (·.2), p.φ j = none) (hlen : ∀ i, i ≤ xs.length → (acc i).length ≤ 50000)
    (step : ∀ i x, xs[i]? = some x → ∃ ρ' js k ρ2, (∀ j ∈ js, j ∈ own.map (·.2)) ∧ (∀ s H C cl fp, GV (Blk X scope s H C cl fp) p tg x (inv i) ρ' js) ∧ (∀ s H C cl fp, RTsS (Blk X scope s H C cl fp) p ifs ρ' k ρ2) ∧
      ((k = true ∧ ∃ y ρ'', (∀ s H C cl fp, RV (Blk X scope s H C cl fp) p elt ρ2 (.da y) ρ'') ∧ Wk ρ'' (inv (i + 1)) ∧ acc (i + 1) = acc i ++ [y]) ∨ (k = false ∧ Wk ρ2 (inv (i + 1)) ∧ acc (i + 1) = acc i)))
    (hs : ∀ x, foldedSetIterable iter X.env x = pure x := by intro _; rfl) : RC X p (.ListComp elt [⟨tg, iter, ifs, 0⟩] scope pos) ρ (.li (acc xs.length)) (inv xs.length) := by
  obtain ⟨wi, pi, ei⟩ := h
  refine ⟨_, pe_lc hc hN pi ok tgb_ok ttb_ok teb_ok hs, fun i y py spos hy hyl hsw => ps_setLc hc hN hy hyl hsw pi ok tgb_ok ttb_ok teb_ok hs, fun σ H B w F Q k => ei σ H B w F _ fun J H1 B1 w1 s1 F1 wd Dl hD => ?_⟩
  obtain ⟨G, Y, wk, hG, hY⟩ := wd
  have FW := F1.wipe hφ
  obtain ⟨s0, F0, i0⟩ := new_lst (T := p.T) FW hD (.nil : DpAll X.K B1 [] [])
  rw [← h0] at F0
  refine lc_it wk (fun i H2 => ∃ B2 w2 us, Stp p.T w1 B1 H1 w2 B2 H2 ∧ Rl X.K p.T p.φ B2 w2 H2 (L2.wipe σ (own.map (·.2))) (inv i) ∧ w2 Dl = none ∧ B2 Dl = none ∧ H2 Dl = some (.lst us) ∧ DpAll X.K B2 us (acc i))
    ⟨B1, w1, [], s0, F0, w_none F1 hD, same_none F1.ext hD, upd_same, by rw [a0]; exact .nil⟩ (fun i H2 hi ⟨B2, w2, us, s2, F2, _⟩ => hG B2 H2 s2.bb F2.ext) (fun i v H2 H3 hi ⟨B2, w2, us, s2, F2, wd, bd, hd, du⟩ y => ?_) (fun H2 ⟨B2, w2, us, s2, F2, wd, bd, hd, du⟩ => ?_)
  · obtain ⟨B3, x, hx, s3, F3, d3⟩ := walk_item (T := p.T) hY s2.bb F2 hi y
    obtain ⟨ρ', js, kk, ρ2, hjs, hg, ht, hcase⟩ := step i x hx
    -- the list's place behind a step
    have keep : ∀ {w5 : Addr → Option Nat} {B5 H5 : Hp}, Stp p.T w2 B2 H2 w5 B5 H5 → w5 Dl = none ∧ B5 Dl = none ∧ H5 Dl = some (.lst us) ∧ DpAll X.K B5 us (acc i) := fun {w5 B5 H5} st => by
      exact ⟨st.keepW (live_lst hd) wd, st.nb Dl (live_lst hd) bd wd, st.hh Dl _ hd wd (fun ps z => by cases z), dpa_mono st.bb du⟩
    have hai : (acc i).length ≤ 50000 := hlen i (by omega)
    have hus := dpa_len du
    -- the new item
    have push : ∀ {w5 : Addr → Option Nat} {B5 H5 : Hp} {ρ5 : Rho} {vy : V} {zy : PyData}, Stp p.T w2 B2 H2 w5 B5 H5 → Rl X.K p.T p.φ B5 w5 H5 (L2.wipe σ (own.map (·.2))) ρ5 → Dp X.K B5 vy zy → Wk ρ5 (inv (i + 1)) → acc (i + 1) = acc i ++ [zy] →
        ∃ ac, H5 Dl = some (.lst ac) ∧ ac.length < sizeLine ∧ ∃ B6 w6 us6, Stp p.T w1 B1 H1 w6 B6 (upd H5 Dl (.lst (ac ++ [vy]))) ∧ Rl X.K p.T p.φ B6 w6 (upd H5 Dl (.lst (ac ++ [vy]))) (L2.wipe σ (own.map (·.2))) (inv (i + 1)) ∧ w6 Dl = none ∧ B6 Dl = none ∧ (upd H5 Dl (.lst (ac ++ [vy]))) Dl = some (.lst us6) ∧ DpAll X.K B6 us6 (acc (i + 1)) := by
      intro w5 B5 H5 ρ5 vy zy st F5 dy wk5 ea
      obtain ⟨k1, k2, k3, k4⟩ := keep st
      have dD : ∀ a o, H1 a = some o → a ≠ Dl := fun a o h => ne_of_none h hD
      have st1 := s2.trans st
      have hlive : ∀ a, Live H5 a → Live (upd H5 Dl (.lst (us ++ [vy]))) a := fun a h => by
        by_cases ha : a = Dl
        · rw [ha]
          exact live_lst upd_same
        · obtain ⟨o, h, n⟩ := h
          exact ⟨o, by rw [upd_ne ha]; exact h, n⟩
      have htab : LamX.Tabs p.T H5 → LamX.Tabs p.T (upd H5 Dl (.lst (us ++ [vy]))) := by
        intro t pp hp
        obtain ⟨ps, q1, q2, q3⟩ := t pp hp
        refine ⟨ps, ?_, q2, fun pos cv hcv => ?_⟩
        · rw [upd_ne (fun e => by rw [e, k3] at q1; cases q1)]
          exact q1
        · obtain ⟨c, e1, e2⟩ := q3 pos cv hcv
          refine ⟨c, e1, ?_⟩
          rw [upd_ne (fun e => by rw [e, k3] at e2; cases e2)]
          exact e2
      have F5w := F5.weak wk5
      refine ⟨us, k3, by rw [hus]; exact Nat.lt_of_le_of_lt hai (by decide), B5, w5, us ++ [vy], ⟨st1.bb, fun a o h hw ho => ?_, fun a h => hlive a (st1.th a h), st1.nb, fun t => htab (st1.tb t), st1.nt, st1.ww⟩, ⟨fun a u e => ?_, F5w.len, fun a h => hlive a (F5.wok a h), htab F5.tabs, F5.nt, F5w.fix, F5w.dat, fun j z h => ?_, fun j z h => ?_⟩, k1, k2, upd_same, ?_⟩
      · rw [upd_ne (dD a o h)]
        exact st1.hh a o h hw ho
      · have : a ≠ Dl := fun z => by
          rw [z, k2] at e
          cases e
        rw [upd_ne this]
        exact F5.ext a u e
      · obtain ⟨m, us2, g1, g2, g3, g4, g5⟩ := (F5.weak wk5).own j z h
        have hm : m ≠ Dl := fun e => by
          rw [e, k1] at g2
          cases g2
        exact ⟨m, us2, g1, g2, g3, by rw [upd_ne hm]; exact g4, g5⟩
      · obtain ⟨m, us2, g1, g2, g3, g4, g5⟩ := (F5.weak wk5).obj j z h
        have hm : m ≠ Dl := fun e => by
          rw [e, k1] at g2
          cases g2
        exact ⟨m, us2, g1, g2, g3, by rw [upd_ne hm]; exact g4, g5⟩
      · rw [ea]
        exact dpa_app k4 (.cons dy .nil)
    intro s Hb C cl fp
    obtain ⟨g, pg, eg⟩ := hg s Hb C cl fp
    refine ⟨g, pg, eg _ H3 B3 w2 v F3 d3 _ fun σ4 F4 n4 => ⟨?_, ?_⟩⟩
    · exact wipe_eq (by rw [n4.1, wipe_length]) fun j hj => n4.2 j fun z => hj (hjs j z)
    · intro s' Hb' C' cl' fp'
      obtain ⟨tt, ptt, ett⟩ := ht s' Hb' C' cl' fp'
      have back : ∀ {w5 : Addr → Option Nat} {B5 H5 : Hp}, Rl X.K p.T p.φ B5 w5 H5 σ4 (inv (i + 1)) → Rl X.K p.T p.φ B5 w5 H5 (L2.wipe σ (own.map (·.2))) (inv (i + 1)) := fun {w5 B5 H5} F5 =>
        F5.slots n4.1.symm (fun j d hd => (n4.2 j fun z => hw _ j (hjs j z) d hd).symm) (fun j v hv => (n4.2 j fun z => by rw [hφ j (hjs j z)] at hv; cases hv).symm)
      refine ⟨tt, ptt, ett σ4 H3 B3 w2 F4 _ fun H5 B5 w5 s5 F5 => ?_⟩
      rcases hcase with ⟨rfl, yy, ρ'', hv, wk2, ea⟩ | ⟨rfl, wk2, ea⟩
      · rw [if_pos rfl]
        intro s6 Hb6 C6 cl6 fp6
        obtain ⟨te, pte, ete⟩ := hv s6 Hb6 C6 cl6 fp6
        exact ⟨te, pte, ete σ4 H5 B5 w5 F5 _ fun vy H6 B6 w6 s6 F6 dy => push ((s3.trans s5).trans s6) (back (F6.weak wk2)) dy (Wk.refl _) ea⟩
      · rw [if_neg (by decide)]
        obtain ⟨k1, k2, k3, k4⟩ := keep (s3.trans s5)
        exact ⟨B5, w5, us, s2.trans (s3.trans s5), back (F5.weak wk2), k1, k2, k3, by rw [ea]; exact k4⟩
  · have F3 : Rl X.K p.T p.φ B2 w2 H2 σ (inv xs.length) := F2.unwipe (fun i d hd hm => hw _ i hm d hd) hφ
    exact k _ H2 B2 w2 (s1.trans s2) F3 ⟨Dl, us, rfl, fun z => not_live hD (s1.th Dl z), wd, bd, hd, du⟩
end
end Dn

set_option Elab.async false
set_option linter.all false
set_option maxRecDepth 100000
set_option maxHeartbeats 2000000
/-! walks along steps; the way back from a place -/
namespace Bf
open PySem
variable {steps : List St} {n : Nat}
/-- along steps from here -/
def wk : List St → Nat → Int → Option (Nat × Int)
  | [], h, t => some (h, t)
  | st :: r, h, t => if st.b = h then wk r st.e (t + st.m) else none
def walkV : List St → Option (Nat × Nat × Int)
  | [] => some (0, 0, 0)
  | st :: r => match wk (st :: r) st.b 0 with
    | some q => some (st.b, q.1, q.2)
    | none => none
theorem wk_pot {y : Nat → Int} (hy : Pot steps y) : ∀ {l : List St} {h : Nat} {t : Int} {q : Nat × Int}, (∀ st ∈ l, st ∈ steps) → wk l h t = some q → q.2 - t ≤ y q.1 - y h
  | [], h, t, q, _, e => by
    cases e
    show t - t ≤ y h - y h
    omega
  | st :: r, h, t, q, hm, e => by
    unfold wk at e
    split at e
    · rename_i hb
      have := wk_pot hy (fun s hs => hm s (.tail _ hs)) e
      have h2 := hy st (hm st (.head _))
      rw [hb] at h2
      omega
    · cases e
theorem walk_pot {y : Nat → Int} (hy : Pot steps y) {l : List St} {f h : Nat} {t : Int} (hm : ∀ st ∈ l, st ∈ steps) (e : walkV l = some (f, h, t)) : t ≤ y h - y f := by
  cases l with
  | nil =>
    cases e
    omega
  | cons st r =>
    have e2 : walkV (st :: r) = match wk (st :: r) st.b 0 with
        | some q => some (st.b, q.1, q.2)
        | none => none := rfl
    rw [e2] at e
    cases hq : wk (st :: r) st.b 0 with
    | none =>
      rw [hq] at e
      cases e
    | some q =>
      rw [hq] at e
      cases e
      have := wk_pot hy hm hq
      omega
theorem wsum_cons (la : List (Option St)) (v : Nat) : ∀ m, wsum la v (m + 1) = mo la v + wsum la (it la v 1) m
  | 0 => by
    show 0 + mo la (it la v 0) = mo la v + 0
    rw [Int.zero_add, Int.add_zero]
    rfl
  | m + 1 => by
    show wsum la v (m + 1) + mo la (it la v (m + 1)) = mo la v + (wsum la (it la v 1) m + mo la (it la (it la v 1) m))
    rw [wsum_cons la v m, ← it_add, Nat.add_comm 1 m]
    omega
theorem it_cons (la : List (Option St)) (v m : Nat) : it la v (m + 1) = it la (it la v 1) m := by rw [← it_add, Nat.add_comm 1 m]
/-- the names gone back, as steps -/
theorem back_walk {la : List (Option St)} {v : Nat} : ∀ {m : Nat}, (∀ i, i < m → ∃ st, la.getD (it la v i) none = some st ∧ st ∈ steps ∧ st.e = it la v i) →
    ∃ sts : List St, sts.length = m ∧ (∀ st ∈ sts, st ∈ steps) ∧ rgL la v m = sts.map (·.nm) ∧ (∀ st r, sts.reverse = st :: r → st.b = it la v m) ∧ ∀ t, wk sts.reverse (it la v m) t = some (v, t + wsum la v m)
  | 0, _ => ⟨[], rfl, fun _ h => (by cases h), rfl, fun _ _ h => (by cases h), fun t => by show some (v, t) = some (v, t + 0); rw [Int.add_zero]⟩
  | m + 1, h => by
    obtain ⟨sts, l, h1, h2, _, h3⟩ := back_walk (m := m) (fun i hi => h i (by omega))
    obtain ⟨st, g1, g2, g3⟩ := h m (by omega)
    have eb : st.b = it la v (m + 1) := by
      show st.b = pr la (it la v m)
      unfold pr
      rw [g1]
    have em : mo la (it la v m) = st.m := by
      unfold mo
      rw [g1]
    refine ⟨sts ++ [st], by rw [List.length_append, l]; rfl, fun s hs => ?_, ?_, fun s r e => ?_, fun t => ?_⟩
    · rcases List.mem_append.mp hs with hs | hs
      · exact h1 s hs
      · rw [List.mem_singleton.mp hs]
        exact g2
    · show rgL la v (m + 1) = _
      unfold rgL at h2 ⊢
      rw [List.range_succ, List.map_append, List.map_append, h2]
      show _ ++ [nmO (la.getD (it la v m) none)] = _
      rw [g1]
      rfl
    · rw [List.reverse_append] at e
      cases e
      exact eb
    · rw [List.reverse_append]
      show wk (st :: sts.reverse) (it la v (m + 1)) t = _
      unfold wk
      rw [if_pos eb, g3, h3]
      show some (v, t + st.m + wsum la v m) = some (v, t + (wsum la v m + mo la (it la v m)))
      rw [em]
      congr 2
      omega
theorem back_walkV {la : List (Option St)} {v m : Nat} {sts : List St} (h0 : ∀ st r, sts.reverse = st :: r → st.b = it la v m) (h1 : ∀ t, wk sts.reverse (it la v m) t = some (v, t + wsum la v m)) (hn : sts = [] → it la v m = 0 ∧ v = 0 ∧ wsum la v m = 0) : walkV sts.reverse = some (it la v m, v, wsum la v m) := by
  cases e : sts.reverse with
  | nil =>
    have : sts = [] := by
      have := congrArg List.reverse e
      simpa using this
    obtain ⟨a, b, c⟩ := hn this
    rw [a, c, b]
    rfl
  | cons st r =>
    have hb := h0 st r e
    have h2 := h1 0
    rw [e] at h2
    show (match wk (st :: r) st.b 0 with
      | some q => some (st.b, q.1, q.2)
      | none => none) = _
    rw [hb, h2, Int.zero_add]
/-- what is reached has a step behind it -/
structure Jl (s : BS) : Prop where
  len : s.la.length = s.su.length
  ex : ∀ v, v ≠ 0 → ∀ x, s.su.getD v none = some x → ∃ st, s.la.getD v none = some st
theorem jl_relax {s : BS} {st : St} (h : Jl s) : Jl (relax s st) := by
  unfold relax
  split
  · exact h
  · split
    · refine ⟨by show (s.la.set _ _).length = (s.su.set _ _).length; rw [List.length_set, List.length_set]; exact h.len, fun v hv x hx => ?_⟩
      have hx : (s.su.set st.e _).getD v none = some x := hx
      show ∃ q, (s.la.set st.e (some st)).getD v none = some q
      rw [getD_set] at hx ⊢
      rw [h.len]
      split at hx
      · rename_i hc
        rw [if_pos hc]
        exact ⟨st, rfl⟩
      · rename_i hc
        rw [if_neg hc]
        exact h.ex v hv x hx
    · exact h
theorem jl_fold : ∀ (l : List St) (s : BS), Jl s → Jl (l.foldl relax s)
  | [], s, h => h
  | st :: l, s, h => jl_fold l _ (jl_relax h)
theorem jl_rnd (hn : 0 < n) : ∀ t, Jl (rnd steps n t)
  | 0 => by
    refine ⟨by show (List.replicate n none).length = (some 0 :: List.replicate (n - 1) none).length; rw [List.length_replicate, List.length_cons, List.length_replicate]; omega, fun v hv x hx => ?_⟩
    have hx : (some (0 : Int) :: List.replicate (n - 1) none).getD v none = some x := hx
    obtain ⟨k, rfl⟩ : ∃ k, v = k + 1 := ⟨v - 1, by omega⟩
    rw [List.getD_cons_succ, List.getD_eq_getElem?_getD, List.getElem?_replicate] at hx
    split at hx <;> cases hx
  | t + 1 => by
    have h := jl_rnd hn t
    exact jl_fold steps _ ⟨h.len, h.ex⟩
theorem jl_sol (ok : Ok steps n) : Jl (solS steps n) := by
  unfold solS
  split <;> exact jl_rnd ok.n0 _
/-- no ring: each place's step tells it exactly -/
theorem path_one (ok : Ok steps n) (h : solT steps n ≤ n) : ∃ T : Nat → Nat, ∀ v x, v ≠ 0 → (solS steps n).su.getD v none = some x → ∃ st x', (solS steps n).la.getD v none = some st ∧ st ∈ steps ∧ st.e = v ∧ (solS steps n).su.getD st.b none = some x' ∧ x = x' + st.m ∧ T st.b < T v := by
  obtain ⟨t, τ, T, clk, I⟩ := solS_inv ok
  have hh := sol_holds ok h
  refine ⟨T, fun v x hv hx => ?_⟩
  obtain ⟨st, h1⟩ := (jl_sol ok).ex v hv x hx
  obtain ⟨a, b, _, d, x', y, e1, e2, e3, e4⟩ := I.L v st h1
  rw [hx] at e2
  cases e2
  obtain ⟨y', g1, g2⟩ := hh st a x' e1
  rw [b, hx] at g1
  cases g1
  have e : x = x' + st.m := by omega
  have nT : ¬ (T v < T st.b ∨ st.b = v) := fun z => by have := e4 z; omega
  refine ⟨st, x', h1, a, b, e1, e, ?_⟩
  have n1 : ¬ T v < T st.b := fun z => nT (.inl z)
  have n2 : st.b ≠ v := fun z => nT (.inr z)
  have n3 : T v ≠ T st.b := fun z => n2 (I.T2 v st.b d z).symm
  omega
/-- .. and so the way back to the first place -/
theorem path_back (ok : Ok steps n) (h : solT steps n ≤ n) : ∃ T : Nat → Nat, ∀ (k v : Nat) (x x0 : Int), T v ≤ k → (solS steps n).su.getD 0 none = some x0 → (solS steps n).su.getD v none = some x →
    ∃ m, (∀ i, i < m → it (solS steps n).la v i ≠ 0 ∧ (∃ st, (solS steps n).la.getD (it (solS steps n).la v i) none = some st ∧ st ∈ steps ∧ st.e = it (solS steps n).la v i) ∧ T (it (solS steps n).la v (i + 1)) < T (it (solS steps n).la v i)) ∧ it (solS steps n).la v m = 0 ∧ wsum (solS steps n).la v m = x - x0 := by
  obtain ⟨T, hT⟩ := path_one ok h
  refine ⟨T, fun k => ?_⟩
  induction k with
  | zero =>
    intro v x x0 hk h0 hx
    by_cases hv : v = 0
    · subst hv
      rw [h0] at hx
      have e := Option.some.inj hx
      exact ⟨0, fun i hi => by omega, rfl, by show (0 : Int) = x - x0; omega⟩
    · obtain ⟨st, x', _, _, _, _, _, hlt⟩ := hT v x hv hx
      omega
  | succ k ih =>
    intro v x x0 hk h0 hx
    by_cases hv : v = 0
    · subst hv
      rw [h0] at hx
      have e := Option.some.inj hx
      exact ⟨0, fun i hi => by omega, rfl, by show (0 : Int) = x - x0; omega⟩
    · obtain ⟨st, x', h1, h2, h3, h4, h5, hlt⟩ := hT v x hv hx
      have e1 : it (solS steps n).la v 1 = st.b := by
        show pr (solS steps n).la v = st.b
        unfold pr
        rw [h1]
      have e2 : mo (solS steps n).la v = st.m := by
        unfold mo
        rw [h1]
      obtain ⟨m, g1, g2, g3⟩ := ih st.b x' x0 (by omega) h0 h4
      refine ⟨m + 1, fun i hi => ?_, by rw [it_cons, e1]; exact g2, by rw [wsum_cons, e1, e2, g3]; omega⟩
      cases i with
      | zero => exact ⟨hv, ⟨st, h1, h2, h3⟩, by rw [e1]; exact hlt⟩
      | succ i =>
        have := g1 i (by omega)
        rw [it_cons _ v i, it_cons _ v (i + 1), e1]
        exact this
theorem back_short {T : Nat → Nat} {f : Nat → Nat} {m N : Nat} (hlt : ∀ i, i < m → T (f (i + 1)) < T (f i)) (hf : ∀ i, i ≤ m → f i < N) : m < N := by
  by_cases h : m < N
  · exact h
  · exfalso
    obtain ⟨i, j, h1, h2, h3⟩ := pigeon N f fun i hi => hf i (by omega)
    have key : ∀ d, i + d ≤ m → T (f (i + d)) + d ≤ T (f i) := by
      intro d
      induction d with
      | zero => exact fun _ => Nat.le_refl _
      | succ d ih =>
        intro hd
        have a := ih (by omega)
        have b := hlt (i + d) (by omega)
        rw [show i + (d + 1) = i + d + 1 by omega]
        omega
    have := key (j - i) (by omega)
    rw [show i + (j - i) = j by omega, ← h3] at this
    omega
/-- a walk, turn by turn -/
theorem wk_trace : ∀ (l : List St) (h : Nat) (t : Int), (∃ h2 t2, wk l h t = some (h2, t2) ∧ ∃ hs : Nat → Nat, ∃ tt : Nat → Int, hs 0 = h ∧ tt 0 = t ∧ hs l.length = h2 ∧ tt l.length = t2 ∧ ∀ i q, l[i]? = some q → q.b = hs i ∧ hs (i + 1) = q.e ∧ tt (i + 1) = tt i + q.m) ∨ (wk l h t = none ∧ ∃ hs : Nat → Nat, ∃ tt : Nat → Int, ∃ m q, hs 0 = h ∧ tt 0 = t ∧ l[m]? = some q ∧ q.b ≠ hs m ∧ ∀ i q, i < m → l[i]? = some q → q.b = hs i ∧ hs (i + 1) = q.e ∧ tt (i + 1) = tt i + q.m) := by
  intro l
  induction l with
  | nil => exact fun h t => .inl ⟨h, t, rfl, fun _ => h, fun _ => t, rfl, rfl, rfl, rfl, fun i q e => by cases e⟩
  | cons q l ih =>
    intro h t
    by_cases e : q.b = h
    · have e2 : wk (q :: l) h t = wk l q.e (t + q.m) := if_pos e
      rcases ih q.e (t + q.m) with ⟨h2, t2, g1, hs, tt, g2, g3, g4, g5, g6⟩ | ⟨g1, hs, tt, m, q', g2, g3, g4, g5, g6⟩
      · refine .inl ⟨h2, t2, e2.trans g1, fun | 0 => h | i + 1 => hs i, fun | 0 => t | i + 1 => tt i, rfl, rfl, g4, g5, fun i x hx => ?_⟩
        cases i with
        | zero => cases hx; exact ⟨e, g2, g3⟩
        | succ i => exact g6 i x hx
      · refine .inr ⟨e2.trans g1, fun | 0 => h | i + 1 => hs i, fun | 0 => t | i + 1 => tt i, m + 1, q', rfl, rfl, g4, g5, fun i x hi hx => ?_⟩
        cases i with
        | zero => cases hx; exact ⟨e, g2, g3⟩
        | succ i => exact g6 i x (by omega) hx
    · exact .inr ⟨if_neg e, fun _ => h, fun _ => t, 0, q, rfl, rfl, rfl, e, fun i x hi => by omega⟩
end Bf

set_option Elab.async false
set_option linter.all false
set_option maxRecDepth 100000
set_option maxHeartbeats 2000000
/-! three names at once -/
namespace Dn
open PySem PySem.Spec PySem.Calls PyProof.Rows L2
section
variable {X : Cx} {p : Pm} {ρ ρ1 ρ2 ρ3 ρ4 : Rho} {a b c : Expr} {pos : Pos} {er : Er} {n : Str}
theorem rs_par3 (i j l : Nat) {m o : Str} {px py pz pt : Pos} {kt k2 pt2} {xa xb xc : PyData} (ha : RV X p a ρ (.da xa) ρ1) (hb : RV X p b ρ1 (.da xb) ρ2) (hcc : RV X p c ρ2 (.da xc) ρ3) (hc : X.calm = true) (hN : X.N.Nodup)
    (hi : X.N[i]? = some n := by rfl) (hj : X.N[j]? = some m := by rfl) (hl : X.N[l]? = some o := by rfl) (hij : i ≠ j := by decide) (hil : i ≠ l := by decide) (hjl : j ≠ l := by decide)
    (hx : X.env.scope.names.lookup n = some .local := by rfl) (hy : X.env.scope.names.lookup m = some .local := by rfl) (hz : X.env.scope.names.lookup o = some .local := by rfl) (hφ : p.φ i = none := by rfl) (hφ' : p.φ j = none := by rfl) (hφ2 : p.φ l = none := by rfl)
    (hw : swappedStores [.Tuple [.Name n px, .Name m py, .Name o pz] kt pt] (.Tuple [a, b, c] k2 pt2) X.env = pure (some [n, m, o]) := by rfl)
    (hs : swapsWithSole [.Tuple [.Name n px, .Name m py, .Name o pz] kt pt] (.Tuple [a, b, c] k2 pt2) pos.line X.env = pure false := by rfl)
    (h1 : starEach [a, b, c] X.env = (false, eval a X.env) :: starEach [b, c] X.env := by rfl) (h2 : starEach [b, c] X.env = (false, eval b X.env) :: starEach [c] X.env := by rfl) (h3 : starEach [c] X.env = (false, eval c X.env) :: starEach [] X.env := by rfl) (hE : ρ4 = ((ρ3.set i (dd xa)).set j (dd xb)).set l (dd xc) := by rfl) :
    RS X p er (.Assign [.Tuple [.Name n px, .Name m py, .Name o pz] kt pt] (.Tuple [a, b, c] k2 pt2) pos) ρ (.nx ρ4) := by
  subst hE
  obtain ⟨ta, pa, ea⟩ := ha
  obtain ⟨tb, pb, eb⟩ := hb
  obtain ⟨tc, pc, ec⟩ := hcc
  refine ⟨_, ps_par3 hc hN hi hj hl hij hil hjl hx hy hz (pa_cons pa (pa_cons pb (pa_cons pc pa_nil h3) h2) h1) hw hs, fun σ H B w F D k => ea σ H B w F _ fun v H1 B1 w1 s1 F1 i1 => eb σ H1 B1 w1 F1 _ fun u H2 B2 w2 s2 F2 i2 => ec σ H2 B2 w2 F2 _ fun t H3 B3 w3 s3 F3 i3 => ?_⟩
  have q1 : Dp X.K B3 v xa := dp_mono (s2.trans s3).bb i1
  have q2 : Dp X.K B3 u xb := dp_mono s3.bb i2
  exact ⟨v, u, t, rfl, k _ H3 B3 w3 ((s1.trans s2).trans s3) (rl_set (rl_set (rl_set F3 hφ q1) hφ' q2) hφ2 i3)⟩
theorem rw_orF {rest : List Expr} {k2 : Bool} (h1 : RT X p a ρ false ρ1) (h2 : RW X p (.BoolOp .Or (b :: rest) pos) ρ1 k2 ρ2) : RW X p (.BoolOp .Or (a :: b :: rest) pos) ρ k2 ρ2 := by
  obtain ⟨t, pt, et⟩ := h1
  obtain ⟨u, pu, eu⟩ := h2
  refine ⟨_, pw_or pt pu, fun σ H B w F Q k => et σ H B w F _ fun H1 B1 w1 s1 F1 => ?_⟩
  rw [if_neg (by decide)]
  exact eu σ H1 B1 w1 F1 _ fun H2 B2 w2 s2 F2 => k H2 B2 w2 (s1.trans s2) F2
theorem rw_andT {rest : List Expr} {k2 : Bool} (h1 : RT X p a ρ true ρ1) (h2 : RW X p (.BoolOp .And (b :: rest) pos) ρ1 k2 ρ2) : RW X p (.BoolOp .And (a :: b :: rest) pos) ρ k2 ρ2 := by
  obtain ⟨t, pt, et⟩ := h1
  obtain ⟨u, pu, eu⟩ := h2
  refine ⟨_, pw_and pt pu, fun σ H B w F Q k => et σ H B w F _ fun H1 B1 w1 s1 F1 => ?_⟩
  rw [if_pos rfl]
  exact eu σ H1 B1 w1 F1 _ fun H2 B2 w2 s2 F2 => k H2 B2 w2 (s1.trans s2) F2
end
end Dn

set_option Elab.async false
set_option linter.all false
set_option maxRecDepth 100000
set_option maxHeartbeats 1000000
namespace Dn
open PySem PySem.Spec PyProof.Rows L2
section
variable {X : Cx} {p : Pm} {er : Er} {ρ ρ1 ρ2 ρ3 : Rho} {a e : Expr} {pos : Pos} {i : Nat}
theorem dpa_ints' {K : PySem.W.Frag} {B : Hp} {vs : List V} {ns : List Int} (h : DpAll K B vs (ns.map .int)) : vs = ns.map V.int := dpa_ints h
/-- o.remove(e), a number that is there -/
theorem rs_remove {apos cpos : Pos} {k : Int} {ns : List Int} {W : WX} (tk : Takes X W) (hc : X.calm = true) (ho : RV X p a ρ (.sl i) ρ1) (h : RV X p e ρ1 (.da (.int k)) ρ2) (hl : ρ2[i]? = some (oo (ns.map .int))) (hk : k ∈ ns) (hl1 : ∃ ys, ρ1[i]? = some (oo ys))
    (hbase : attributeBase a "remove" X.env (eval a X.env) = eval a X.env := by rfl)
    (hfew : ((backTo cpos (starEach [e] X.env)).all (fun x => !x.1) && (backToKw cpos (keywordEach [] X.env)).all (fun x => x.1.isSome)
      && decide (([e] : List Expr).length + ([] : List Keyword).length + (if ([] : List Keyword).isEmpty then 0 else 1) < 30)) = true := by rfl)
    (hline : (apos.endLine == cpos.line) = true := by rfl) (hs : starEach [e] X.env = (false, eval e X.env) :: starEach [] X.env := by rfl) (hplain : (backTo cpos (starEach [] X.env)).any (·.1) = false := by rfl)
    (hsw : swapsWith (.Call (.Attribute a "remove" apos) [e] [] cpos) none pos.line X.env = pure false := by rfl) (hE : ρ3 = ρ2.set i (oo ((ns.erase k).map .int)) := by rfl) :
    RS X p er (.Expr (.Call (.Attribute a "remove" apos) [e] [] cpos) pos) ρ (.nx ρ3) := by
  subst hE
  obtain ⟨ta, pa, ea⟩ := ho
  obtain ⟨te, pe, ee⟩ := h
  obtain ⟨ys, hys⟩ := hl1
  refine ⟨_, ps_expr (pe_remX hc tk pa pe hbase hfew hline hs hplain) hsw, fun σ H B w F D k0 => ea σ H B w F _ fun o H1 B1 w1 s1 F1 i1 => ?_⟩
  have i1' : σ[i]? = some (some o) := i1
  obtain ⟨l, us0, g1, g2, g3, g4, g5⟩ := F1.own i ys hys
  rw [g1] at i1'
  obtain rfl : V.ref l = o := Option.some.inj (Option.some.inj i1')
  refine ⟨.inl ⟨rfl, us0, .inl (.inl g4)⟩, ee σ H1 B1 w1 F1 _ fun v H2 B2 w2 s2 F2 i2 => ?_⟩
  obtain ⟨l', us, h1, h2, h3, h4, h5⟩ := F2.own i _ hl
  rw [g1] at h1
  obtain rfl : l = l' := V.ref.inj (Option.some.inj (Option.some.inj h1))
  have eu := dpa_ints h5
  subst eu
  obtain ⟨s4, F4⟩ := rl_mut F2 hl g1 (dpa_of_ints (ns.erase k))
  exact ⟨l, ns, k, rfl, dp_int i2, h4, fun _ => k0 _ _ _ _ ((s1.trans s2).trans s4) F4, fun hn => absurd hk hn⟩
end
end Dn

set_option Elab.async false
set_option linter.all false
set_option maxRecDepth 100000
set_option maxHeartbeats 2000000
namespace Dn
open PySem PySem.Spec PySem.W PySem.Calls PyProof.Rows L2 LamX
section
variable {X : Cx} {p : Pm} {ρ ρ1 : Rho} {K : PySem.W.Frag} {B B2 : Hp}
mutual
/-- data with no list in it -/
def noL : PyData → Bool
  | .int _ => true
  | .bool _ => true
  | .str _ => true
  | .none => true
  | .tuple xs => noLs xs
  | _ => false
def noLs : List PyData → Bool
  | [] => true
  | x :: xs => noL x && noLs xs
end
def minus (B : Hp) (l : Addr) : Hp := fun a => if a = l then none else B a
theorem sqt_minus {l a : Addr} {us xs : List V} (hl : B l = some (.lst us)) (h : SqT K B a xs) : SqT K (minus B l) a xs := by
  have ne : ∀ o, B a = some o → (∀ us, o ≠ .lst us) → minus B l a = some o := fun o h1 h2 => by
    unfold minus
    rw [if_neg fun e => by rw [e, hl] at h1; exact h2 us (Option.some.inj h1).symm]
    exact h1
  rcases h with (h | ⟨o, h⟩) | h
  · exact .inl (.inl (ne _ h fun us z => by cases z))
  · exact .inl (.inr ⟨o, ne _ h fun us z => by cases z⟩)
  · exact .inr h
mutual
theorem dp_noL {l : Addr} {us : List V} (hl : B l = some (.lst us)) : ∀ {v : V} {x : PyData}, noL x = true → Dp K B v x → Dp K (minus B l) v x
  | _, _, _, .non => .non
  | _, _, _, .bl b => .bl b
  | _, _, _, .int i => .int i
  | _, _, _, .str z => .str z
  | _, _, h, .lst _ _ => by unfold noL at h; cases h
  | _, _, h, .tup a r => .tup (sqt_minus hl a) (dpa_noL hl (by unfold noL at h; exact h) r)
theorem dpa_noL {l : Addr} {us : List V} (hl : B l = some (.lst us)) : ∀ {vs : List V} {xs : List PyData}, noLs xs = true → DpAll K B vs xs → DpAll K (minus B l) vs xs
  | _, _, _, .nil => .nil
  | _, _, h, .cons d r => by
    unfold noLs at h
    rw [Bool.and_eq_true] at h
    exact .cons (dp_noL hl h.1 d) (dpa_noL hl h.2 r)
end
/-- a list of ours is lent out while an expression is worked out that ends in a list of data with no list in it -/
theorem evs_loanN (i : Nat) {t : TE} {zs ys : List PyData} (hi : ρ[i]? = some (oo zs)) (h : EvS K p t (ρ.set i (dd (.list zs))) (.li ys) ρ1) (hy : noLs ys = true)
    (hρ : ∀ k us, k ≠ i → ρ[k]? = some (oo us) → ρ1[k]? = some (oo us) ∧ noLs us = true) (hob : noOb ρ = true := by rfl) : EvS K p t ρ (.li ys) ρ := fun σ H B w F Q k => by
  obtain ⟨l, us, h1, h2, h3, h4, h5⟩ := F.own i zs hi
  obtain ⟨s, F'⟩ := rl_settle0 F hi h1 h2 h3 h4 h5
  refine h σ H _ _ F' Q fun v H2 B2 w2 s2 F2 i2 => ?_
  have s3 := s.trans s2
  have hb : (upd B l (.lst us)) l = some (.lst us) := upd_same
  have hb2 : B2 l = some (.lst us) := s2.bb l _ hb
  have lv : ∀ a, w a ≠ none → Live H a := F.wok
  have bb : Same B (minus B2 l) := fun a o e => by
    unfold minus
    rw [if_neg fun z => by rw [z, h3] at e; cases e]
    exact s3.bb a o e
  have nt : ∀ a ps, minus B2 l a ≠ some (.tbl ps) := fun a ps e => by
    unfold minus at e
    split at e
    · cases e
    · exact F2.nt a ps e
  refine k v H2 (minus B2 l) w ⟨bb, s3.hh, s3.th, fun a z1 z2 z3 => ?_, s3.tb, fun _ => nt, fun _ z => .inl z⟩ ⟨fun a o e => ?_, F.len, fun a z => s3.th a (F.wok a z), F2.tabs, nt, F.fix, fun j x hj => ?_, fun j us' hj => ?_, fun j O hj => ?_⟩ ?_
  · unfold minus
    rw [s3.nb a z1 z2 z3, ite_self]
  · unfold minus at e
    split at e
    · cases e
    · exact F2.ext a o e
  · obtain ⟨v, q1, q2⟩ := F.dat j x hj
    exact ⟨v, q1, dq_mono bb q2⟩
  · by_cases e : j = i
    · subst e
      rw [hi] at hj
      cases hj
      exact ⟨l, us, h1, h2, if_pos rfl, F2.ext l _ hb2, dpa_mono bb h5⟩
    · obtain ⟨g1, g2⟩ := hρ j us' e hj
      obtain ⟨m, vs, q1, q2, q3, q4, q5⟩ := F.own j us' hj
      obtain ⟨m', vs', r1, r2, r3, r4, r5⟩ := F2.own j us' g1
      rw [q1] at r1
      obtain rfl : m = m' := V.ref.inj (Option.some.inj (Option.some.inj r1))
      exact ⟨m, vs', q1, q2, by unfold minus; rw [r3, ite_self], r4, dpa_noL hb2 g2 r5⟩
  · exact (noOb_at hob hj).elim
  · obtain ⟨a, vs, e, a0, aw, ab, ah, ad⟩ := i2
    refine ⟨a, vs, e, a0, ?_, by unfold minus; rw [ab, ite_self], ah, dpa_noL hb2 hy ad⟩
    cases q : w a with
    | none => rfl
    | some _ => exact absurd (lv a (by rw [q]; exact fun z => by cases z)) a0
theorem rv_loanN (i : Nat) {e : Expr} {zs ys : List PyData} (hi : ρ[i]? = some (oo zs)) (h : RV X p e (ρ.set i (dd (.list zs))) (.li ys) ρ1) (hy : noLs ys = true)
    (hρ : ∀ k us, k ≠ i → ρ[k]? = some (oo us) → ρ1[k]? = some (oo us) ∧ noLs us = true) (hob : noOb ρ = true := by rfl) : RV X p e ρ (.li ys) ρ := by
  obtain ⟨t, pt, et⟩ := h
  exact ⟨t, pt, evs_loanN i hi et hy hρ hob⟩
theorem rc_loanN (i : Nat) {e : Expr} {zs ys : List PyData} (hi : ρ[i]? = some (oo zs)) (h : RC X p e (ρ.set i (dd (.list zs))) (.li ys) ρ1) (hy : noLs ys = true)
    (hρ : ∀ k us, k ≠ i → ρ[k]? = some (oo us) → ρ1[k]? = some (oo us) ∧ noLs us = true) (hob : noOb ρ = true := by rfl) : RC X p e ρ (.li ys) ρ := by
  obtain ⟨t, pt, qt, et⟩ := h
  exact ⟨t, pt, qt, evs_loanN i hi et hy hρ hob⟩
theorem noLs_ints : ∀ ns : List Int, noLs (ns.map PyData.int) = true
  | [] => by rw [List.map_nil, noLs]
  | n :: ns => by rw [List.map_cons, noLs, noLs_ints ns, noL]; rfl
end
end Dn

set_option Elab.async false
set_option linter.all false
set_option maxRecDepth 100000
set_option maxHeartbeats 2000000
namespace Dn
open PySem PySem.Spec PySem.W PySem.Calls PyProof.Rows L2 LamX
section
variable {X : Cx} {p : Pm} {er : Er} {ρ ρ1 ρ2 ρ3 : Rho} {a b : Expr} {pos : Pos} {n : Str}
/-- a, b = e1, e2 where a name is captured: by a tuple -/
theorem rs_parC (i j : Nat) {m : Str} {px py pt : Pos} {kt k2 pt2} {ra rb : Rs} (ha : RV X p a ρ ra ρ1) (hb : RV X p b ρ1 rb ρ2) (hc : X.calm = true) (hN : X.N.Nodup) (hra : ∀ j, ra ≠ .sl j := by exact fun _ h => nomatch h) (hrb : ∀ j, rb ≠ .sl j := by exact fun _ h => nomatch h)
    (hi : X.N[i]? = some n := by rfl) (hj : X.N[j]? = some m := by rfl)
    (hx : Loc X.env.scope n := by first | exact Or.inl rfl | exact Or.inr rfl) (hy : Loc X.env.scope m := by first | exact Or.inl rfl | exact Or.inr rfl) (hφ : p.φ i = none := by rfl) (hφ' : p.φ j = none := by rfl)
    (hf : X.fn n = true ∨ X.env.scope.names.lookup n = some .local := by first | exact .inl rfl | exact .inr rfl) (hf' : X.fn m = true ∨ X.env.scope.names.lookup m = some .local := by first | exact .inl rfl | exact .inr rfl)
    (hs : swapsWithSole [.Tuple [.Name n px, .Name m py] kt pt] (.Tuple [a, b] k2 pt2) pos.line X.env = pure false := by rfl) (hw : swappedStores [.Tuple [.Name n px, .Name m py] kt pt] (.Tuple [a, b] k2 pt2) X.env = pure none := by rfl)
    (h1 : (assignEach [.Tuple [.Name n px, .Name m py] kt pt] X.env).map (·.2) = [assign (.Tuple [.Name n px, .Name m py] kt pt) X.env] := by rfl)
    (hn : (assignEach [.Name n px, .Name m py] X.env).length = 2 := by rfl) (hst : (assignEach [.Name n px, .Name m py] X.env).findIdx? (·.1) = none := by rfl)
    (g1 : (assignEach [.Name n px, .Name m py] X.env).map (·.2) = assign (.Name n px) X.env :: (assignEach [.Name m py] X.env).map (·.2) := by rfl) (g2 : (assignEach [.Name m py] X.env).map (·.2) = assign (.Name m py) X.env :: (assignEach [] X.env).map (·.2) := by rfl)
    (e1 : starEach [a, b] X.env = (false, eval a X.env) :: starEach [b] X.env := by rfl) (e2 : starEach [b] X.env = (false, eval b X.env) :: starEach [] X.env := by rfl) (hE : ρ3 = (ρ2.set i (ofRs ra)).set j (ofRs rb) := by rfl) :
    RS X p er (.Assign [.Tuple [.Name n px, .Name m py] kt pt] (.Tuple [a, b] k2 pt2) pos) ρ (.nx ρ3) := by
  subst hE
  obtain ⟨ta, pa, ea⟩ := ha
  obtain ⟨tb, pb, eb⟩ := hb
  refine ⟨_, ps_asg (pe_tup (pa_cons pa (pa_cons pb pa_nil e2) e1)) (pg_tup hc (pgs_cons (pg_name hN hi hx hf) (pgs_cons (pg_name hN hj hy hf') pgs_nil g2) g1) hn hst) hs hw h1, fun σ H B w F D k => ea σ H B w F _ fun v H1 B1 w1 s1 F1 i1 => eb σ H1 B1 w1 F1 _ fun u H2 B2 w2 s2 F2 i2 => ?_⟩
  refine ⟨by show 2 ≤ _; decide, fun q hq => ?_⟩
  obtain ⟨sq, Fq⟩ := new_both (T := p.T) F2 hq (.tup [v, u]) (fun ps z => by cases z)
  refine ⟨q, [v, u], rfl, .inl (.inl upd_same), rfl, ?_⟩
  refine ⟨v, [u], rfl, ?_⟩
  have s12 := s1.trans (s2.trans sq)
  obtain ⟨w3, s3, F3, hw3⟩ := rl_put Fq s12 (i1.step (s2.trans sq)) hφ hra
  have i2q : ItV X.K (upd B2 q (.tup [v, u])) w2 (upd H2 q (.tup [v, u])) H σ u rb := (i2.step sq).back s1
  have i2' : ItV X.K (upd B2 q (.tup [v, u])) w3 (upd H2 q (.tup [v, u])) H σ u rb := by
    cases rb with
    | da z => exact i2q
    | li zs =>
      obtain ⟨l, us, rfl, h0, hw, g⟩ := i2q
      refine ⟨l, us, rfl, h0, ?_, g⟩
      rcases hw3 l with e | ⟨e, ys, er⟩
      · rw [e]
        exact hw
      · exfalso
        subst e er
        obtain ⟨l', us', e', h0', _⟩ := i2
        cases e'
        obtain ⟨l2, us2, e2, _, _, _, hl2, _⟩ := i1
        cases e2
        exact h0' (live_lst hl2)
    | sl j => exact absurd rfl (hrb j)
  obtain ⟨w4, s4, F4, _⟩ := rl_put F3 s3 i2' hφ' hrb
  exact ⟨u, [], rfl, rfl, k _ _ _ w4 s4 F4⟩
end
end Dn

set_option Elab.async false
set_option linter.all false
set_option maxRecDepth 100000
set_option maxHeartbeats 2000000
/-! a dict of ours with whole numbers as keys, written to -/
namespace Dn
open PySem PySem.Spec PySem.W PySem.Calls PyProof.Rows L2 LamX
section
variable {X : Cx} {p : Pm} {er : Er} {so : So} {ρ ρ1 ρ2 ρ3 ρ4 : Rho} {a b c e tg iter : Expr} {st : Stmt} {pos pos' : Pos}
variable {K : PySem.W.Frag} {T : List (Addr × Str)} {φ : Nat → Option V} {w w1 : Addr → Option Nat} {B B1 H H0 H1 : Hp} {σ σ1 : L2.St} {n : Str}
theorem rl_setj {i : Nat} {l : Addr} {o : HO} {O : Obn} (F : Rl K T φ B w H σ ρ) (hφ : φ i = none) (hw : w l = none) (hb : B l = none) (hl : H l = some o) (hnt : ∀ ps, o ≠ .tbl ps) (d : O.f K B o) :
    Rl K T φ B (fun a => if a = l then some i else w a) H (σ.set i (some (.ref l))) (ρ.set i (oj O)) := by
  refine ⟨F.ext, by rw [List.length_set, List.length_set]; exact F.len, fun a h => ?_, F.tabs, F.nt, fun j u h => ?_, fun j u h => ?_, fun j u h => ?_, fun j u h => ?_⟩
  · by_cases ha : a = l
    · rw [ha]
      exact ⟨o, hl, hnt⟩
    · rw [if_neg ha] at h
      exact F.wok a h
  · have hj : i ≠ j := fun e => by
      rw [← e, hφ] at h
      cases h
    rw [List.getElem?_set_ne hj]
    exact F.fix j u h
  · by_cases hj : j = i
    · subst hj
      have hlt : j < ρ.length := by
        have := (List.getElem?_eq_some_iff.mp h).1
        rwa [List.length_set] at this
      rw [List.getElem?_set_self hlt] at h
      cases h
    · rw [List.getElem?_set_ne (Ne.symm hj)] at h ⊢
      exact F.dat j u h
  · by_cases hj : j = i
    · subst hj
      have hlt : j < ρ.length := by
        have := (List.getElem?_eq_some_iff.mp h).1
        rwa [List.length_set] at this
      rw [List.getElem?_set_self hlt] at h
      cases h
    · rw [List.getElem?_set_ne (Ne.symm hj)] at h ⊢
      obtain ⟨m, us', g1, g2, g3, g4, g5⟩ := F.own j u h
      have hml : m ≠ l := fun e => by
        rw [e, hw] at g2
        cases g2
      exact ⟨m, us', g1, by rw [if_neg hml]; exact g2, g3, g4, g5⟩
  · by_cases hj : j = i
    · subst hj
      have hlt : j < ρ.length := by
        have := (List.getElem?_eq_some_iff.mp h).1
        rwa [List.length_set] at this
      rw [List.getElem?_set_self hlt] at h
      cases h
      exact ⟨l, o, List.getElem?_set_self (by rw [← F.len]; exact hlt), if_pos rfl, hb, hl, d⟩
    · rw [List.getElem?_set_ne (Ne.symm hj)] at h ⊢
      obtain ⟨m, us', g1, g2, g3, g4, g5⟩ := F.obj j u h
      have hml : m ≠ l := fun e => by
        rw [e, hw] at g2
        cases g2
      exact ⟨m, us', g1, by rw [if_neg hml]; exact g2, g3, g4, g5⟩
theorem rl_mutj {i : Nat} {l : Addr} {o : HO} {O O' : Obn} (F : Rl K T φ B w H σ ρ) (hi : ρ[i]? = some (oj O)) (hσ : σ[i]? = some (some (.ref l))) (hnt : ∀ ps, o ≠ .tbl ps) (d : O'.f K B o) :
    Stp T w B H w B (upd H l o) ∧ Rl K T φ B w (upd H l o) σ (ρ.set i (oj O')) := by
  obtain ⟨l', us0, h1, h2, h3, h4, h5, _, nt0⟩ := F.objx hi
  rw [h1] at hσ
  obtain rfl : l' = l := V.ref.inj (Option.some.inj (Option.some.inj hσ))
  have hlt : i < ρ.length := (List.getElem?_eq_some_iff.mp hi).1
  have wl : ∀ a, w a = none → a ≠ l' := fun a h e => by
    rw [e, h2] at h
    cases h
  have hlive : ∀ a, Live H a → Live (upd H l' o) a := fun a h => by
    by_cases ha : a = l'
    · rw [ha]
      exact ⟨o, upd_same, hnt⟩
    · obtain ⟨o, h, n⟩ := h
      exact ⟨o, by rw [upd_ne ha]; exact h, n⟩
  have htab : LamX.Tabs T H → LamX.Tabs T (upd H l' o) := fun t => ?_
  refine ⟨⟨Same.refl B, fun a o h hw _ => by rw [upd_ne (wl a hw)]; exact h, hlive, fun a h hb _ => hb, htab, fun t => t, fun a h => .inl h⟩, ⟨fun a u e => ?_, by rw [List.length_set]; exact F.len, fun a h => hlive a (F.wok a h), htab F.tabs, F.nt, F.fix, fun j z h => ?_, fun j z h => ?_, fun j O h => ?_⟩⟩
  rotate_right
  · intro pp hp
    obtain ⟨ps, h1, h2, h3⟩ := t pp hp
    refine ⟨ps, ?_, h2, fun pos cv hc => ?_⟩
    · rw [upd_ne (fun e => by rw [e, h4] at h1; exact nt0 ps (Option.some.inj h1))]
      exact h1
    · obtain ⟨c, e1, e2⟩ := h3 pos cv hc
      refine ⟨c, e1, ?_⟩
      rw [upd_ne (fun e => by rw [e, h4] at e2; exact O.nx h5 _ (Option.some.inj e2))]
      exact e2
  · have : a ≠ l' := fun z => by
      rw [z, h3] at e
      cases e
    rw [upd_ne this]
    exact F.ext a u e
  · by_cases hj : j = i
    · subst hj
      rw [List.getElem?_set_self hlt] at h
      cases h
    · rw [List.getElem?_set_ne (Ne.symm hj)] at h
      exact F.dat j z h
  · by_cases hj : j = i
    · subst hj
      rw [List.getElem?_set_self hlt] at h
      cases h
    · rw [List.getElem?_set_ne (Ne.symm hj)] at h
      obtain ⟨m, us2, g1, g2, g3, g4, g5⟩ := F.own j z h
      have hml : m ≠ l' := fun e => by
        rw [e, h2] at g2
        exact hj (Option.some.inj g2).symm
      exact ⟨m, us2, g1, g2, g3, by rw [upd_ne hml]; exact g4, g5⟩
  · by_cases hj : j = i
    · subst hj
      rw [List.getElem?_set_self hlt] at h
      cases h
      exact ⟨l', o, h1, h2, h3, upd_same, d⟩
    · rw [List.getElem?_set_ne (Ne.symm hj)] at h
      obtain ⟨m, us2, g1, g2, g3, g4, g5⟩ := F.obj j O h
      have hml : m ≠ l' := fun e => by
        rw [e, h2] at g2
        exact hj (Option.some.inj g2).symm
      exact ⟨m, us2, g1, g2, g3, by rw [upd_ne hml]; exact g4, g5⟩
/-- a new thing that is nobody's yet -/
theorem new_any {q : Addr} (F : Rl K T φ B w H σ ρ) (hp : H q = none) (o : HO) : Stp T w B H w B (upd H q o) ∧ Rl K T φ B w (upd H q o) σ ρ := by
  refine ⟨⟨Same.refl B, fun a u e _ _ => same_new hp a u e, fun a l => live_new hp l, fun a l hb _ => hb, fun t => t.ext (same_new hp), fun t => t, fun a h => .inl h⟩, ⟨F.ext.trans (same_new hp), F.len, fun a h => live_new hp (F.wok a h), F.tabs.ext (same_new hp), F.nt, F.fix, F.dat, fun i zs h => ?_, fun i O h => ?_⟩⟩
  · obtain ⟨l, us, h1, h2, h3, h4, h5⟩ := F.own i zs h
    exact ⟨l, us, h1, h2, h3, same_new hp _ _ h4, h5⟩
  · obtain ⟨l, us, h1, h2, h3, h4, h5⟩ := F.obj i O h
    exact ⟨l, us, h1, h2, h3, same_new hp _ _ h4, h5⟩
/-- a dict of ours: numbers and data, in the order of their coming -/
def dicI (kd : List (Int × PyData)) : Obn := ⟨fun K B o => ∃ kvs : List (L2.Key × V), o = .dK kvs ∧ Paired (fun (p : L2.Key × V) (q : Int × PyData) => p.1 = Sum.inl q.1 ∧ Dp K B p.2 q.2) kvs kd,
  fun e ⟨kvs, h1, h2⟩ => ⟨kvs, h1, L2.Paired.mapP h2 fun p q r => ⟨r.1, dp_mono e r.2⟩⟩,
  fun ⟨kvs, h1, _⟩ g z => by rw [h1] at z; cases z⟩
def lookI (kd : List (Int × PyData)) (k : Int) : Option PyData := (kd.find? fun q => decide (q.1 = k)).map (·.2)
theorem look_kvs {kvs : List (L2.Key × V)} {kd : List (Int × PyData)} (h : Paired (fun (p : L2.Key × V) (q : Int × PyData) => p.1 = Sum.inl q.1 ∧ Dp K B p.2 q.2) kvs kd) (k : Int) : (lookI kd k = none → valV kvs (Sum.inl k) = none) ∧ ∀ z, lookI kd k = some z → ∃ v, valV kvs (Sum.inl k) = some v ∧ Dp K B v z := by
  induction h with
  | nil => exact ⟨fun _ => rfl, fun z h => by cases h⟩
  | @cons p q ps kd r t ih =>
    unfold lookI valV at ih ⊢
    rw [List.find?_cons, List.find?_cons, r.1]
    by_cases e : q.1 = k
    · rw [decide_eq_true e, decide_eq_true (show (Sum.inl q.1 : L2.Key) = Sum.inl k by rw [e])]
      exact ⟨fun h => by (cases h), fun z h => by cases h; exact ⟨_, rfl, r.2⟩⟩
    · rw [decide_eq_false e, decide_eq_false (show ¬ (Sum.inl q.1 : L2.Key) = Sum.inl k from fun z => e (Sum.inl.inj z))]
      exact ih
theorem paired_app {α β : Type} {R : α → β → Prop} : ∀ {a : List α} {b : List β} {c : List α} {d : List β}, Paired R a b → Paired R c d → Paired R (a ++ c) (b ++ d)
  | _, _, _, _, .nil, h => h
  | _, _, _, _, .cons r t, h => .cons r (paired_app t h)
/-- n = {} -/
theorem rs_dnew (i : Nat) {pd : Pos} (hN : X.N.Nodup) (hi : X.N[i]? = some n := by rfl) (hx : Loc X.env.scope n := by first | exact Or.inl rfl | exact Or.inr rfl) (hφ : p.φ i = none := by rfl)
    (hs : swapsWith (.Dict [] [] pd) (some (.Name n pos')) pos.line X.env = pure false := by rfl) (hf : X.fn n = true ∨ X.env.scope.names.lookup n = some .local := by first | exact .inl rfl | exact .inr rfl) (hE : ρ2 = ρ.set i (oj (dicI [])) := by rfl) : RS X p er (.Assign [.Name n pos'] (.Dict [] [] pd) pos) ρ (.nx ρ2) := by
  subst hE
  refine ⟨_, ps_set hN hi hx pe_dnewK hs hf, fun σ H B w F D k => fun q hq => ?_⟩
  obtain ⟨s1, F1⟩ := new_any (T := p.T) F hq (.dK [])
  have hw : w q = none := w_none F hq
  refine k _ _ B _ ⟨s1.bb, s1.hh, s1.th, s1.nb, s1.tb, s1.nt, fun a h => ?_⟩ (rl_setj F1 hφ hw (same_none F.ext hq) upd_same (fun ps z => by cases z) ⟨[], rfl, .nil⟩)
  by_cases ha : a = q
  · rw [ha]
    exact .inr (not_live hq)
  · rw [if_neg ha] at h
    exact .inl h
/-- n[e] = v, a new number -/
theorem rs_dput (i : Nat) {value ie : Expr} {np pos'' : Pos} {k : Int} {z : PyData} {kd : List (Int × PyData)} (hu : X.A.units + 64 < cLine) (hv : RV X p value ρ (.da z) ρ1) (hi : RV X p ie ρ1 (.da (.int k)) ρ2) (h1 : ∃ O, ρ1[i]? = some (oj O)) (h2 : ρ2[i]? = some (oj (dicI kd))) (hk : lookI kd k = none) (hl : kd.length ≤ 1000)
    (hN : X.N[i]? = some n := by rfl) (hvis : Vis X.env.scope n := by first | exact Or.inl rfl | exact Or.inr (Or.inl rfl) | exact Or.inr (Or.inr rfl)) (hd : (n == ("__debug__" : Str)) = false := by decide) (hcd : (n == ("__classdict__" : Str)) = false := by decide)
    (hs : swapsWith value (some (.Subscript (.Name n np) ie pos'')) pos.line X.env = pure false := by rfl) (hE : ρ3 = ρ2.set i (oj (dicI (kd ++ [(k, z)]))) := by rfl) : RS X p er (.Assign [.Subscript (.Name n np) ie pos''] value pos) ρ (.nx ρ3) := by
  subst hE
  obtain ⟨tv, pv, ev⟩ := hv
  obtain ⟨ti, pi, ei⟩ := hi
  obtain ⟨O, h1⟩ := h1
  refine ⟨_, ps_dput (by omega) (pe_var hN hvis hd hcd) pi pv hs, fun σ H B w F D k0 => ev σ H B w F _ fun v H1 B1 w1 s1 F1 d1 => ?_⟩
  obtain ⟨l, o1, g1, g2, g3, g4, g5⟩ := F1.obj i O h1
  refine ⟨.ref l, g1, ei σ H1 B1 w1 F1 _ fun y H2 B2 w2 s2 F2 d2 => ?_⟩
  obtain ⟨l', o2, q1, q2, q3, q4, kvs, rfl, q5⟩ := F2.obj i _ h2
  rw [g1] at q1
  obtain rfl : l = l' := V.ref.inj (Option.some.inj (Option.some.inj q1))
  have ln : kvs.length = kd.length := paired_len q5
  have e : putK kvs (Sum.inl k) v = kvs ++ [(Sum.inl k, v)] := putK_new v ((look_kvs q5 k).1 hk)
  have dv : Dp X.K B2 v z := dp_mono s2.bb d1
  obtain ⟨s4, F4⟩ := rl_mutj (o := .dK (putK kvs (Sum.inl k) v)) (O' := dicI (kd ++ [(k, z)])) F2 h2 g1 (fun ps z => by cases z) ⟨_, rfl, by rw [e]; exact paired_app q5 (.cons ⟨rfl, dv⟩ .nil)⟩
  have ey : y = kV (Sum.inl k) := dp_int d2
  refine ⟨l, _, rfl, ?_, k0 _ _ _ _ ((s1.trans s2).trans s4) F4⟩
  rw [ey]
  exact DPut.k q4 (by rw [ln]; exact Nat.lt_of_le_of_lt hl (by decide))
end
end Dn

set_option Elab.async false
set_option linter.all false
set_option maxRecDepth 100000
set_option maxHeartbeats 2000000
/-! a dict of ours is lent out while a statement reads it -/
namespace Dn
open PySem PySem.Spec PySem.W PySem.Calls PyProof.Rows L2 LamX
section
variable {X : Cx} {p : Pm} {er : Er} {so : So} {ρ ρ1 ρ2 ρ3 ρ4 : Rho} {a b c e tg iter : Expr} {st : Stmt} {pos pos' : Pos}
variable {K : PySem.W.Frag} {T : List (Addr × Str)} {φ : Nat → Option V} {w w1 : Addr → Option Nat} {B B1 H H0 H1 : Hp} {σ σ1 : L2.St} {n : Str}
/-- a dict that is read alone -/
def dicF (kd : List (Int × PyData)) : Mon := ⟨fun K B v => ∃ (a : Addr) (od : Obj) (kvs : List (L2.Key × V)), v = .ref a ∧ B a = some (.frz od (.dK kvs)) ∧ Paired (fun (p : L2.Key × V) (q : Int × PyData) => p.1 = Sum.inl q.1 ∧ Dp K B p.2 q.2) kvs kd,
  fun e ⟨a, od, kvs, h1, h2, h3⟩ => ⟨a, od, kvs, h1, e _ _ h2, L2.Paired.mapP h3 fun p q r => ⟨r.1, dp_mono e r.2⟩⟩⟩
theorem ps_can : PS X st (fun D σ H => ∃ t, PS X st t ∧ t D σ H) := ⟨fun pins s σ H D I ⟨_, pt, h⟩ => pt.run pins s σ H D I h⟩
def pinφ (φ : Nat → Option V) (i : Nat) (l : Addr) : Nat → Option V := fun j => if j = i then some (.ref l) else φ j
theorem sqt_minus' {l a : Addr} {od : Obj} {kvs : List (L2.Key × V)} {xs : List V} (hl : B l = some (.frz od (.dK kvs))) (h : SqT K B a xs) : SqT K (minus B l) a xs := by
  have ne : ∀ o, B a = some o → (∀ od kvs, o ≠ .frz od (.dK kvs)) → minus B l a = some o := fun o h1 h2 => by
    unfold minus
    rw [if_neg fun e => by rw [e, hl] at h1; exact h2 _ _ (Option.some.inj h1).symm]
    exact h1
  rcases h with (h | ⟨o, h⟩) | h
  · exact .inl (.inl (ne _ h fun od kvs z => by cases z))
  · exact .inl (.inr ⟨o, ne _ h fun od kvs z => by cases z⟩)
  · exact .inr h
theorem sql_minus' {l a : Addr} {od : Obj} {kvs : List (L2.Key × V)} {xs : List V} (hl : B l = some (.frz od (.dK kvs))) (h : SqL K B a xs) : SqL K (minus B l) a xs := by
  have ne : ∀ o, B a = some o → (∀ od kvs, o ≠ .frz od (.dK kvs)) → minus B l a = some o := fun o h1 h2 => by
    unfold minus
    rw [if_neg fun e => by rw [e, hl] at h1; exact h2 _ _ (Option.some.inj h1).symm]
    exact h1
  rcases h with (h | ⟨o, h⟩) | h
  · exact .inl (.inl (ne _ h fun od kvs z => by cases z))
  · exact .inl (.inr ⟨o, ne _ h fun od kvs z => by cases z⟩)
  · exact .inr h
mutual
theorem dp_minus' {l : Addr} {od : Obj} {kvs : List (L2.Key × V)} (hl : B l = some (.frz od (.dK kvs))) : ∀ {v : V} {x : PyData}, Dp K B v x → Dp K (minus B l) v x
  | _, _, .non => .non
  | _, _, .bl b => .bl b
  | _, _, .int i => .int i
  | _, _, .str z => .str z
  | _, _, .lst a r => .lst (sql_minus' hl a) (dpa_minus' hl r)
  | _, _, .tup a r => .tup (sqt_minus' hl a) (dpa_minus' hl r)
theorem dpa_minus' {l : Addr} {od : Obj} {kvs : List (L2.Key × V)} (hl : B l = some (.frz od (.dK kvs))) : ∀ {vs : List V} {xs : List PyData}, DpAll K B vs xs → DpAll K (minus B l) vs xs
  | _, _, .nil => .nil
  | _, _, .cons d r => .cons (dp_minus' hl d) (dpa_minus' hl r)
end
theorem tabs_upd {l : Addr} {q o : HO} (h : H l = some q) (h1 : ∀ ps, q ≠ .tbl ps) (h2 : ∀ g, q ≠ .ext g) (t : LamX.Tabs T H) : LamX.Tabs T (upd H l o) := by
  intro pp hp
  obtain ⟨ps, q1, q2, q3⟩ := t pp hp
  refine ⟨ps, ?_, q2, fun pos cv hc => ?_⟩
  · rw [upd_ne (fun e => by rw [e, h] at q1; exact h1 ps (Option.some.inj q1))]
    exact q1
  · obtain ⟨c, e1, e2⟩ := q3 pos cv hc
    refine ⟨c, e1, ?_⟩
    rw [upd_ne (fun e => by rw [e, h] at e2; exact h2 _ (Option.some.inj e2))]
    exact e2
/-- a statement reads the dict -/
theorem rs_lend (i : Nat) {kd : List (Int × PyData)} (hi : ρ[i]? = some (oj (dicI kd))) (hφ : p.φ i = none) (h : ∀ l, RS X ⟨p.T, pinφ p.φ i l⟩ er st (ρ.set i (mm (dicF kd))) (.nx ρ1))
    (hm : ∀ k M, k ≠ i → ρ1[k]? ≠ some (mm M)) (ho : ∀ k O, k ≠ i → ρ1[k]? ≠ some (oj O)) (ho0 : ∀ k O, k ≠ i → ρ[k]? ≠ some (oj O)) (hl : ρ1.length = ρ.length) (hE : ρ2 = ρ1.set i (oj (dicI kd)) := by rfl) : RS X p er st ρ (.nx ρ2) := by
  subst hE
  refine ⟨_, ps_lock ps_can, fun σ H B w F D k => ?_⟩
  obtain ⟨l, o, h1, h2, h3, h4, kvs, rfl, pr⟩ := F.obj i _ hi
  obtain ⟨t, pt, et⟩ := h l
  refine ⟨l, .dK kvs, h4, trivial, fun od => ⟨t, pt, ?_⟩⟩
  have hlt : i < ρ.length := (List.getElem?_eq_some_iff.mp hi).1
  have sB : Same B (upd B l (.frz od (.dK kvs))) := same_new h3
  have nt1 : ∀ a ps, upd B l (.frz od (.dK kvs)) a ≠ some (.tbl ps) := fun a ps z => by
    by_cases ha : a = l
    · rw [ha, upd_same] at z
      cases z
    · rw [upd_ne ha] at z
      exact F.nt a ps z
  have live1 : ∀ a, Live H a → Live (upd H l (.frz od (.dK kvs))) a := fun a ⟨o, e, n⟩ => by
    by_cases ha : a = l
    · exact ⟨_, by rw [ha]; exact upd_same, fun ps z => by cases z⟩
    · exact ⟨o, by rw [upd_ne ha]; exact e, n⟩
  have F1 : Rl X.K p.T (pinφ p.φ i l) (upd B l (.frz od (.dK kvs))) (fun a => if a = l then none else w a) (upd H l (.frz od (.dK kvs))) σ (ρ.set i (mm (dicF kd))) := by
    refine ⟨fun a u e => ?_, by rw [List.length_set]; exact F.len, fun a ha => ?_, tabs_upd h4 (fun ps z => by cases z) (fun g z => by cases z) F.tabs, nt1, fun j v hj => ?_, fun j x hj => ?_, fun j zs hj => ?_, fun j O hj => ?_⟩
    · by_cases ha : a = l
      · rw [ha, upd_same] at e ⊢
        exact e
      · rw [upd_ne ha] at e ⊢
        exact F.ext a u e
    · by_cases hal : a = l
      · rw [if_pos hal] at ha
        exact absurd rfl ha
      · rw [if_neg hal] at ha
        exact live1 a (F.wok a ha)
    · unfold pinφ at hj
      by_cases e : j = i
      · rw [if_pos e] at hj
        cases hj
        rw [e]
        exact h1
      · rw [if_neg e] at hj
        exact F.fix j v hj
    · by_cases e : j = i
      · subst e
        rw [List.getElem?_set_self hlt] at hj
        cases hj
        exact ⟨_, h1, l, od, kvs, rfl, upd_same, L2.Paired.mapP pr fun p q r => ⟨r.1, dp_mono sB r.2⟩⟩
      · rw [List.getElem?_set_ne (Ne.symm e)] at hj
        obtain ⟨v, q1, q2⟩ := F.dat j x hj
        exact ⟨v, q1, dq_mono sB q2⟩
    · by_cases e : j = i
      · subst e
        rw [List.getElem?_set_self hlt] at hj
        cases hj
      · rw [List.getElem?_set_ne (Ne.symm e)] at hj
        obtain ⟨m, us, g1, g2, g3, g4, g5⟩ := F.own j zs hj
        have hml : m ≠ l := fun z => by
          rw [z, h2] at g2
          exact e (Option.some.inj g2).symm
        exact ⟨m, us, g1, by rw [if_neg hml]; exact g2, by rw [upd_ne hml]; exact g3, by rw [upd_ne hml]; exact g4, dpa_mono sB g5⟩
    · by_cases e : j = i
      · subst e
        rw [List.getElem?_set_self hlt] at hj
        cases hj
      · rw [List.getElem?_set_ne (Ne.symm e)] at hj
        exact (ho0 j O e hj).elim
  refine et σ _ _ _ F1 _ fun σ' H' B' w' s' F' => ?_
  have b2 : B' l = some (.frz od (.dK kvs)) := s'.bb l _ upd_same
  have hl2 : H' l = some (.frz od (.dK kvs)) := F'.ext l _ b2
  refine ⟨hl2, ?_⟩
  have live2 : ∀ a, Live H' a → Live (upd H' l (.dK kvs)) a := fun a ⟨o, e, n⟩ => by
    by_cases ha : a = l
    · exact ⟨_, by rw [ha]; exact upd_same, fun ps z => by cases z⟩
    · exact ⟨o, by rw [upd_ne ha]; exact e, n⟩
  have bb : Same B (minus B' l) := fun a u e => by
    have ha : a ≠ l := fun z => by rw [z, h3] at e; cases e
    unfold minus
    rw [if_neg ha]
    exact s'.bb a u (sB a u e)
  have nt2 : ∀ a ps, minus B' l a ≠ some (.tbl ps) := fun a ps z => by
    unfold minus at z
    split at z
    · cases z
    · exact F'.nt a ps z
  have tab2 : LamX.Tabs p.T (upd H' l (.dK kvs)) := tabs_upd hl2 (fun ps z => by cases z) (fun g z => by cases z) F'.tabs
  have hlt1 : i < ρ1.length := by omega
  refine k σ' _ (minus B' l) (fun a => if a = l then some i else w' a) ⟨bb, fun a u e hw n => ?_, fun a hv => live2 a (s'.th a (live1 a hv)), fun a hv hb hw => ?_, fun _ => tab2, fun _ => nt2, fun a ha => ?_⟩ ⟨fun a u e => ?_, by rw [List.length_set]; exact F'.len, fun a ha => ?_, tab2, nt2, fun j v hj => ?_, fun j x hj => ?_, fun j zs hj => ?_, fun j O hj => ?_⟩
  · have hal : a ≠ l := fun z => by rw [z, h2] at hw; cases hw
    rw [upd_ne hal]
    exact s'.hh a u (by rw [upd_ne hal]; exact e) (by rw [if_neg hal]; exact hw) n
  · have hal : a ≠ l := fun z => by rw [z, h2] at hw; cases hw
    unfold minus
    rw [if_neg hal]
    exact s'.nb a (live1 a hv) (by rw [upd_ne hal]; exact hb) (by rw [if_neg hal]; exact hw)
  · by_cases hal : a = l
    · rw [hal, h2]
      exact .inl fun z => by cases z
    · rw [if_neg hal] at ha
      rcases s'.ww a ha with z | z
      · rw [if_neg hal] at z
        exact .inl z
      · exact .inr fun hv => z (live1 a hv)
  · unfold minus at e
    split at e
    · cases e
    · rename_i hal
      rw [upd_ne hal]
      exact F'.ext a u e
  · by_cases hal : a = l
    · exact ⟨_, by rw [hal]; exact upd_same, fun ps z => by cases z⟩
    · rw [if_neg hal] at ha
      exact live2 a (F'.wok a ha)
  · have e : j ≠ i := fun z => by rw [z, hφ] at hj; cases hj
    exact F'.fix j v (show pinφ p.φ i l j = some v by unfold pinφ; rw [if_neg e]; exact hj)
  · by_cases e : j = i
    · subst e
      rw [List.getElem?_set_self hlt1] at hj
      cases hj
    · rw [List.getElem?_set_ne (Ne.symm e)] at hj
      obtain ⟨v, q1, q2⟩ := F'.dat j x hj
      cases x with
      | d z => exact ⟨v, q1, dp_minus' b2 q2⟩
      | m M => exact (hm j M e hj).elim
  · by_cases e : j = i
    · subst e
      rw [List.getElem?_set_self hlt1] at hj
      cases hj
    · rw [List.getElem?_set_ne (Ne.symm e)] at hj
      obtain ⟨m, us, g1, g2, g3, g4, g5⟩ := F'.own j zs hj
      have hml : m ≠ l := fun z => by rw [z, b2] at g3; cases g3
      exact ⟨m, us, g1, by rw [if_neg hml]; exact g2, by unfold minus; rw [g3, ite_self], by rw [upd_ne hml]; exact g4, dpa_minus' b2 g5⟩
  · by_cases e : j = i
    · subst e
      rw [List.getElem?_set_self hlt1] at hj
      cases hj
      exact ⟨l, .dK kvs, F'.fix j (.ref l) (if_pos rfl), if_pos rfl, if_pos rfl, upd_same, kvs, rfl, L2.Paired.mapP pr fun p q r => ⟨r.1, dp_mono bb r.2⟩⟩
    · rw [List.getElem?_set_ne (Ne.symm e)] at hj
      exact (ho j O e hj).elim
/-- for k in n: the numbers of a dict that is lent out -/
theorem iv_dkeys {kd : List (Int × PyData)} (h : RM X p iter ρ (dicF kd) ρ1) : IV X p tg iter ρ (kd.map fun q => .int q.1) ρ1 := by
  obtain ⟨t, pt, et⟩ := h
  refine ⟨_, pi_keys pt, fun σ H B w F R k => et σ H B w F _ fun v H' B' w' s F' d => ?_⟩
  obtain ⟨a, od, kvs, rfl, hb, pr⟩ := d
  have ln : kvs.length = kd.length := paired_len pr
  refine ⟨a, od, rfl, .inl ⟨kvs, F'.ext a _ hb, k _ H' B' w' s F' ⟨_, _, by rw [List.length_map, ← ln]; exact walk_keys, fun B2 H2 s1 s2 => s2 a _ (s1 a _ hb), fun i H2 B2 v H3 s1 s2 hi y => ?_⟩⟩⟩
  obtain ⟨e, kk, vv, hk, rfl⟩ := y
  obtain ⟨q, hq, r⟩ := paired_get pr hk
  refine ⟨.int q.1, by rw [List.getElem?_map, hq]; rfl, .inl ⟨e, ?_⟩⟩
  have r1 : kk = Sum.inl q.1 := r.1
  rw [r1]
  exact .int q.1
/-- n[e] of a dict that is lent out -/
theorem rv_dgetM {kd : List (Int × PyData)} {k : Int} {z : PyData} (hu : X.A.units + 64 < cLine) (ha : RM X p a ρ (dicF kd) ρ1) (hb : RV X p b ρ1 (.da (.int k)) ρ2) (hz : lookI kd k = some z) (hs : NoSl b := by exact fun _ _ => rfl) : RV X p (.Subscript a b pos) ρ (.da z) ρ2 := by
  obtain ⟨t, pt, et⟩ := ha
  obtain ⟨u, pu, eu⟩ := hb
  refine ⟨_, pe_dget (by omega) pt pu hs, fun σ H B w F Q k0 => et σ H B w F _ fun v H1 B1 w1 s1 F1 d1 => eu σ H1 B1 w1 F1 _ fun y H2 B2 w2 s2 F2 d2 => ?_⟩
  obtain ⟨a, od, kvs, rfl, hb, pr⟩ := d1
  obtain ⟨vv, h1, h2⟩ := (look_kvs pr k).2 z hz
  have ey : y = kV (Sum.inl k) := dp_int d2
  exact ⟨a, vv, rfl, .inl ⟨kvs, Sum.inl k, .inr ⟨od, F2.ext a _ (s2.bb a _ hb)⟩, ey, h1.symm⟩, k0 vv H2 B2 w2 (s1.trans s2) F2 (dp_mono s2.bb h2)⟩
/-- n[e] of a dict of ours -/
theorem rv_dget (i : Nat) {np : Pos} {kd : List (Int × PyData)} {k : Int} {z : PyData} (hu : X.A.units + 64 < cLine) (h1 : ∃ O, ρ[i]? = some (oj O)) (hb : RV X p b ρ (.da (.int k)) ρ1) (h2 : ρ1[i]? = some (oj (dicI kd))) (hz : lookI kd k = some z)
    (hN : X.N[i]? = some n := by rfl) (hvis : Vis X.env.scope n := by first | exact Or.inl rfl | exact Or.inr (Or.inl rfl) | exact Or.inr (Or.inr rfl)) (hd : (n == ("__debug__" : Str)) = false := by decide) (hcd : (n == ("__classdict__" : Str)) = false := by decide) (hs : NoSl b := by exact fun _ _ => rfl) : RV X p (.Subscript (.Name n np) b pos) ρ (.da z) ρ1 := by
  obtain ⟨u, pu, eu⟩ := hb
  obtain ⟨O, h1⟩ := h1
  refine ⟨_, pe_dget (by omega) (pe_var hN hvis hd hcd) pu hs, fun σ H B w F Q k0 => ?_⟩
  obtain ⟨l, o1, g1, _⟩ := F.obj i O h1
  refine ⟨.ref l, g1, eu σ H B w F _ fun y H2 B2 w2 s2 F2 d2 => ?_⟩
  obtain ⟨l', o2, q1, q2, q3, q4, kvs, rfl, pr⟩ := F2.obj i _ h2
  rw [g1] at q1
  obtain rfl : l = l' := V.ref.inj (Option.some.inj (Option.some.inj q1))
  obtain ⟨vv, h3, h4⟩ := (look_kvs pr k).2 z hz
  have ey : y = kV (Sum.inl k) := dp_int d2
  exact ⟨l, vv, rfl, .inl ⟨kvs, Sum.inl k, .inl q4, ey, h3.symm⟩, k0 vv H2 B2 w2 s2 F2 h4⟩
end
end Dn

set_option Elab.async false
set_option linter.all false
set_option maxRecDepth 100000
set_option maxHeartbeats 1000000
namespace Dn
open PySem PySem.Spec PyProof.Rows L2
section
variable {X : Cx} {p : Pm} {ρ ρ1 ρ2 : Rho} {a b e : Expr} {pos : Pos}
theorem rm_range2 {pp : Pos} {i j : Int} (h : RA X p [a, b] ρ [.da (.int i), .da (.int j)] ρ1) (hm : X.mg "range" = none) (hg : Gl X "range" := by rfl) (he : starEach [a, b] X.env = (false, eval a X.env) :: starEach [b] X.env := by rfl) (hpl : (backTo pos (starEach [b] X.env)).any (·.1) = false := by rfl) :
    RM X p (.Call (.Name "range" pp) [a, b] [] pos) ρ (rngM i j) ρ1 := by
  obtain ⟨t, pt, et⟩ := h
  refine ⟨_, pe_callTy cr_range2 hg hm (by decide +kernel) pt (by decide) (by decide) he hpl, fun σ H B w F Q k0 => et σ H B w F _ fun vs H1 B1 w1 s1 F1 i1 => ?_⟩
  obtain ⟨v, u, rfl, i2, i3⟩ := itvs2 i1
  refine ⟨i, j, by rw [dp_int i2, dp_int i3], fun q hq => ?_⟩
  obtain ⟨s2, F2⟩ := new_both F1 hq (.rng i j) (fun ps z => by cases z)
  exact k0 _ _ _ _ (s1.trans s2) F2 ⟨q, rfl, upd_same⟩
/-- a number in range(..) -/
theorem rv_inRng {i lo hi : Int} (ha : RV X p a ρ (.da (.int i)) ρ1) (hb : RM X p b ρ1 (rngM lo hi) ρ2) (hm : behindInMarks .In b = false := by first | exact nomark _ | rfl) : RV X p (.Compare a [.In] [b] pos) ρ (.da (.bool (decide (lo ≤ i ∧ i < hi)))) ρ2 := by
  obtain ⟨ta, pa, ea⟩ := ha
  obtain ⟨tb, pb, eb⟩ := hb
  refine ⟨_, pe_cmpR op_in_rng pa pb hm, fun σ H B w F Q q => ea σ H B w F _ fun x H1 B1 w1 s1 F1 i1 => eb σ H1 B1 w1 F1 _ fun y H2 B2 w2 s2 F2 m2 => ?_⟩
  obtain ⟨r, rfl, hr⟩ := m2
  exact ⟨i, r, lo, hi, dp_int i1, rfl, F2.ext _ _ hr, q _ H2 B2 w2 (s1.trans s2) F2 (.bl _)⟩
theorem rt_inRng {i lo hi : Int} (ha : RV X p a ρ (.da (.int i)) ρ1) (hb : RM X p b ρ1 (rngM lo hi) ρ2) (hm : behindInMarks .In b = false := by first | exact nomark _ | rfl) : RT X p (.Compare a [.In] [b] pos) ρ (decide (lo ≤ i ∧ i < hi)) ρ2 := by
  obtain ⟨ta, pa, ea⟩ := ha
  obtain ⟨tb, pb, eb⟩ := hb
  refine ⟨_, pt_cmpR op_in_rng pa pb hm, fun σ H B w F Q q => ea σ H B w F _ fun x H1 B1 w1 s1 F1 i1 => eb σ H1 B1 w1 F1 _ fun y H2 B2 w2 s2 F2 m2 => ?_⟩
  obtain ⟨r, rfl, hr⟩ := m2
  exact ⟨i, r, lo, hi, dp_int i1, rfl, F2.ext _ _ hr, _, rfl, q H2 B2 w2 (s1.trans s2) F2⟩
end
/-- ints and a number, compared -/
theorem dataLt_tn (a b : List Int) (x y : Int) : PySem.W.dataLt (.tuple [.tuple (a.map .int), .int x]) (.tuple [.tuple (b.map .int), .int y]) = if a = b then decide (x < y) else decide (a < b) := by
  rw [PySem.W.dataLt_pair (alike_tints a b) (by rfl), PySem.W.dataLt_int, dataLt_tints, eqvT_ints]
  by_cases e : a = b
  · subst e
    simp [PyData.eqv]
    intro h
    omega
  · rw [if_neg e]
    simp [e]
end Dn

set_option Elab.async false
set_option linter.all false
set_option maxRecDepth 100000
set_option maxHeartbeats 1000000
namespace Dn
open PySem PySem.Spec PyProof.Rows L2
section
variable {X : Cx} {p : Pm} {er : Er} {ρ ρ1 ρ2 : Rho} {a b e : Expr} {pos pos' : Pos} {ra rb r : Rs}
/-- text + text -/
theorem ov_catS {i j : Str} (h : i.length + j.length ≤ sizeLine) : OpV X p (binaryOp .Add) (.da (.str i)) (.da (.str j)) ρ (.da (.str (i ++ j))) :=
  opv_now op_add_str fun σ H B w x y H0 F s ia ib => ⟨.str (i ++ j), .str _, fun Q q => ⟨i, j, dp_str ia, dp_str ib, h, q⟩⟩
/-! ### what a call returns, or a word of what it raises: try: return call() except C as e: return "..." + e.fl -/
def TTa (C : Addr) (fl pre : Str) : (XK → Hp → VK → Prop) → Hp → VK → Prop := fun tl H Q =>
  tl (fun cls d H' => cls = .ref C ∧ ∃ dd nm, d = some dd ∧ H' dd = some (.xd [(fl, .str nm)]) ∧ pre.length + nm.length ≤ sizeLine ∧ Q (.str (pre ++ nm)) H') H Q
theorem asked_gives {x n1 n2 cn q fl pre : Str} {sg : Scope} {g C : Addr} {cdg : Value} {j : Nat} {p1 p2 p3 p4 p5 p6 p7 p8 p9 p10 p11 : Pos} (hge : sg.names.lookup cn = some .globalImplicit) (hme : X.mg cn = some (.ref C)) (hde : (cn == ("__debug__" : Str)) = false)
    (hnd : ([n1, n2] : List Str).Nodup) (hl2 : sg.names.lookup n2 = some .local) (hd2 : (n2 == ("__debug__" : Str)) = false) (hcd2 : (n2 == ("__classdict__" : Str)) = false) (hx : PySem.W.exmOne X.K (.ref C) (.ref C) = some true) (XF : XfC X.K C) (hno : PySem.W.findIn X.K (.ref C) fl = some none)
    (hat : ∀ (env : Env), attributeBase (.Name n2 p5) fl env (eval (.Name n2 p5) env) = eval (.Name n2 p5) env) :
    LamX.GivesTo X [n1, n2] x sg g cdg [.Try [.Return (some (.Call (.Name n1 p1) [] [] p2)) p3] [.ExceptHandler (some (.Name cn p4)) (some n2) [.Return (some (.BinOp (.Constant (.str pre) j p10) .Add (.Attribute (.Name n2 p5) fl p6) p11)) p7] p8] [] [] p9] n1 q (TTa C fl pre) := by
  intro f c' s H Q tl act hc h
  have hgl : Gl (cxOf C8.CX0 X.prog X.w X.K X.mg X.base [n1, n2] x sg g cdg X.A X.stack s H C8.E0).nox cn := hge
  refine ⟨_, pss_one (ps_try_as (X := (cxOf C8.CX0 X.prog X.w X.K X.mg X.base [n1, n2] x sg g cdg X.A X.stack s H C8.E0).nox) (c := .ref C) (i := 1) (n := n2)
      (tb := fun W D σ H => ∃ Ec : XK, (∀ cls d σ' H', Ec cls d H' → W cls d σ' H') ∧ σ[0]? = some (some (.ref f)) ∧ H c' = some (LamX.CodeO c' q) ∧ tl Ec H D.rt)
      (ts := fun a cls d D σ H => σ.length = 2 → tRet (tOp (fun x y H Q => ∃ i j, x = .str i ∧ y = .str j ∧ i.length + j.length ≤ sizeLine ∧ Q (.str (i ++ j)) H) (tC (.str pre)) (tXf a cls d C fl (tVar 1))) D σ H) (Wout := fun _ _ _ _ => False)
      rfl rfl hnd rfl hl2 ⟨hgl, hde, .inl hme⟩ takes0 (fun W pn xe tk _ => ?_) (fun a oe cls d pn hz hf => ?_)), ?_⟩
  · refine ⟨fun pins s' σ H' D I h' => ?_⟩
    obtain ⟨Ec, hW, e1, e2, e3⟩ := h'
    have hpe := act W pn xe Ec p1 p2 tk hW
    have hst := pss_one (ps_ret (pos := p3) hpe)
    exact hst.run pins s' σ H' D I ⟨e1, e2, e3⟩
  · have hp := pss_one (ps_ret (pos := p7) (pe_op (pos := p11) (X := (cxOf C8.CX0 X.prog X.w X.K X.mg X.base [n1, n2] x sg g cdg X.A X.stack s H C8.E0).nox.suite a ((a, oe) :: pn)) op_add_str (pe_str (x := pre) (j := j) (pos := p10)) (pe_xf (X := (cxOf C8.CX0 X.prog X.w X.K X.mg X.base [n1, n2] x sg g cdg X.A X.stack s H C8.E0).nox) (pos := p6) (te := tVar 1) XF hno hz hf (pe_var (X := ((cxOf C8.CX0 X.prog X.w X.K X.mg X.base [n1, n2] x sg g cdg X.A X.stack s H C8.E0).nox).suite a ((a, oe) :: pn)) (i := 1) rfl (.inl hl2) hd2 hcd2) (hat _))))
    exact pss_len hp
  · refine ⟨fun cls d H' => cls = .ref C ∧ ∃ dd nm, d = some dd ∧ H' dd = some (.xd [(fl, .str nm)]) ∧ pre.length + nm.length ≤ sizeLine ∧ Q (.str (pre ++ nm)) H', fun cls d σ' H' hE => ?_, rfl, hc, h⟩
    obtain ⟨rfl, dd, nm, rfl, hxd, hln, hq⟩ := hE
    refine ⟨true, hx, fun _ a ha hlen => ?_, fun z => by cases z⟩
    have h1 : (σ'.set 1 (some (.ref a)))[1]? = some (some (.ref a)) := by
      rw [List.length_set] at hlen
      exact List.getElem?_set_self (by omega)
    exact ⟨.ref a, h1, rfl, rfl, dd, _, .str nm, rfl, hxd, by simp [List.lookup], pre, nm, rfl, rfl, hln, hq⟩
/-- the def that is handed the lambda -/
structure AsT (P : Program) (w : World) (K : PySem.W.Frag) (mg : Str → Option Value) (base : Heap) (x : Str) (C : Addr) (fl pre : Str) : Prop where
  ex : ∃ (g : Addr) (fd : FuncData) (st : Stmt) (n1 n2 cn : Str) (j : Nat) (p1 p2 p3 p4 p5 p6 p7 p8 p9 p10 p11 : Pos), Fun K x x st g fd ∧ mg x = some (.ref g) ∧ Binds K fd [n1] [] ∧ FnScope [n1, n2] [n1] (defScope st) ∧ Vis (defScope st) n1 ∧ (n1 == ("__debug__" : Str)) = false ∧ (n1 == ("__classdict__" : Str)) = false ∧
    defBody st = [.Try [.Return (some (.Call (.Name n1 p1) [] [] p2)) p3] [.ExceptHandler (some (.Name cn p4)) (some n2) [.Return (some (.BinOp (.Constant (.str pre) j p10) .Add (.Attribute (.Name n2 p5) fl p6) p11)) p7] p8] [] [] p9] ∧
    (defScope st).names.lookup cn = some .globalImplicit ∧ mg cn = some (.ref C) ∧ (cn == ("__debug__" : Str)) = false ∧ (defScope st).names.lookup n2 = some .local ∧ (n2 == ("__debug__" : Str)) = false ∧ (n2 == ("__classdict__" : Str)) = false ∧
    (∀ (env : Env), attributeBase (.Name n2 p5) fl env (eval (.Name n2 p5) env) = eval (.Name n2 p5) env)
  hx : PySem.W.exmOne K (.ref C) (.ref C) = some true
  xf : XfC K C
  no : PySem.W.findIn K (.ref C) fl = some none
theorem asked_core {x : Str} {C c P0 : Addr} {fl pre : Str} {z : PyData} {k : Nat} {pp lpos : Pos} {params : Arguments} {body : Expr} {scope : Scope} (R : AsT X.prog X.w X.K X.mg X.base x C fl pre) (TBx : LamX.TabB X.base X.mg c P0) (hcode : X.env.code = .ref c)
    (hmT : (P0, X.env.qual ++ "<lambda>") ∈ p.T) (hu : ∀ q ∈ p.T, q.1 = P0 → q.2 = X.env.qual ++ "<lambda>") (hr : Room (k + 2) X.A) (L : LamX.LamS X.env.scope scope)
    (hbody : ∀ (A : Around) (outer : List Env) (s : Shared) (H : Hp) (E : XK) (f c' : Addr), Room k (LamX.lamCx X A outer s H E scope f c').A →
      (∃ nm, z = .str (pre ++ nm) ∧ pre.length + nm.length ≤ sizeLine ∧ RX (LamX.lamCx X A outer s H E scope f c') p ⟨C, fl, E⟩ body ρ (.s nm)) ∨ (∃ ρ', RV (LamX.lamCx X A outer s H E scope f c') p body ρ (.da z) ρ' ∧ Wk ρ' ρ))
    (hdef : defaultsOf params X.env = ([], []) := by rfl) (hbind : ∀ (q : Str) (cl : List (Str × Addr)) (pm cv ctv : Value), bindArgs (PySem.W.kla_fn "<lambda>" q params body scope cl pm cv ctv) ⟨[], []⟩ = pure [] := by exact fun _ _ _ _ _ => rfl)
    (hg : Gl X x := by rfl) (hdb : (x == ("__debug__" : Str)) = false := by decide) : RV X p (.Call (.Name x pp) [.Lambda params body scope lpos] [] pos) ρ (.da z) ρ := by
  obtain ⟨g, fd, st, n1, n2, cn, j, p1, p2, p3, p4, p5, p6, p7, p8, p9, p10, p11, F, hm, hb, Sg, hv, hd1, hcd1, hbg, hge, hme, hde, hl2, hd2, hcd2, hat⟩ := R.ex
  obtain ⟨oc, od, kV, doc, pm, an, cdv, ct, osl, rfl, lk, hcg⟩ := F.ex
  have hG := asked_gives (X := X) (x := x) (pre := pre) (q := X.env.qual ++ "<lambda>") (g := g) (cdg := cdv) (j := j) (p1 := p1) (p2 := p2) (p3 := p3) (p4 := p4) (p5 := p5) (p6 := p6) (p7 := p7) (p8 := p8) (p9 := p9) (p10 := p10) (p11 := p11) hge hme hde Sg.nd hl2 hd2 hcd2 R.hx R.xf R.no hat
  rw [← hbg] at hG
  refine ⟨_, LamX.pe_lamcall (T := p.T) (t := fun E => fun σ H Q => ∀ A outer s Hb f c', Room k (A.deeper (LamX.lamEnv X scope s.heap.objs.size f c')) → ∃ t, PE (LamX.lamCx X A outer s Hb E scope f c') body t ∧ t σ H Q)
    hg hm F.kp lk hcg hb Sg rfl hv hG TBx hcode hmT hu hr L hdef hbind (fun A outer s H E f c' hr' => ⟨fun pins s' σ H' Q I h => ?_⟩) hdb hd1 hcd1, fun σ H B w F0 Q k0 => ⟨F0.tabs, fun H1 e1 t1 => ?_⟩⟩
  · obtain ⟨t, pt, ht⟩ := h A outer s H f c' hr'
    exact pt.run pins s' σ H' Q I ht
  · obtain ⟨s1, F1⟩ := F0.extN e1 t1
    show ∀ A outer s Hb f c', Room k (A.deeper (LamX.lamEnv X scope s.heap.objs.size f c')) → ∃ t, PE (LamX.lamCx X A outer s Hb _ scope f c') body t ∧ t σ H1 _
    intro A outer s Hb f c' hr'
    rcases hbody A outer s Hb (fun cls d H' => cls = .ref C ∧ ∃ dd nm, d = some dd ∧ H' dd = some (.xd [(fl, .str nm)]) ∧ pre.length + nm.length ≤ sizeLine ∧ Q (.str (pre ++ nm)) H') f c' hr' with ⟨nm, rfl, hln, h⟩ | ⟨ρ', h, wk⟩
    · obtain ⟨t, pt, et⟩ := h
      exact ⟨t, pt, et σ H1 B w F1 _ fun d H2 B2 w2 s2 F2 hd => ⟨rfl, d, nm, rfl, hd, hln, k0 (.str (pre ++ nm)) H2 B2 w2 (s1.trans s2) F2 (.str (pre ++ nm))⟩⟩
    · obtain ⟨t, pt, et⟩ := h
      exact ⟨t, pt, et σ H1 B w F1 _ fun v H2 B2 w2 s2 F2 i2 => k0 v H2 B2 w2 (s1.trans s2) (F2.weak wk) i2⟩
variable {n : Str} {k : Nat} {ps : List Str} {kbs : List (List Str × List Nat)} {S : List PyData → Oc → Prop} {xs : List PyData}
/-- a call by keywords that raises -/
theorem rx_callK {pp : Pos} {er : Er} {nm : Xn} {kws : List Keyword} (ks : List Str) (ix : List Nat) (D : Df X.prog X.w X.K X.mg X.base n k ps (spP X.K p.T er.C er.fl S) kbs) (hr : Room k X.A) (tk : Takes X (fun cls d _ H => er.E cls d H)) (ha : RK X p kws ρ (xs.map .da) ρ) (hS : S (ix.filterMap fun i => xs[i]?) (.err nm))
    (hix : (ks, ix) ∈ kbs := by simp) (hlk : xs.length = ks.length := by rfl) (hg : Gl X n := by rfl)
    (hall : (backToKw pos (keywordEach kws X.env)).all (·.1.isSome) = true := by rfl) (hks : (backToKw pos (keywordEach kws X.env)).filterMap (·.1) = ks := by rfl)
    (hdb : (n == ("__debug__" : Str)) = false := by decide) (hpl : ((backTo pos (starEach [] X.env)).any (·.1) || (backToKw pos (keywordEach kws X.env)).any (·.1.isNone)) = false := by rfl) :
    RX X p er (.Call (.Name n pp) [] kws pos) ρ nm := by
  obtain ⟨f, fd, F, hm, hk, _, hb⟩ := D.ex
  obtain ⟨t, pt, et⟩ := ha
  refine ⟨_, pe_callK0 (E := er.E) F hr hg hm hk (hb _ hix) (passes_call tk fun _ _ _ _ h => h) pt hall hks hdb hpl, fun σ H B w F0 Q k => ?_⟩
  refine et σ H B w F0 _ fun vs H1 B1 w1 s1 F1 i1 => ⟨by rw [dpa_len (itvs_da i1), hlk], ?_⟩
  refine ⟨_, .err nm, B1, hS, F1.ext, F1.tabs, F1.nt, dpa_pick (itvs_da i1), fun d H2 B2 w2 s2 e2 i2 => ?_⟩
  obtain ⟨s3, F3⟩ := F1.after s2 e2
  exact k d H2 B2 w1 (s1.trans s3) F3 i2
end
end Dn

set_option Elab.async false
set_option linter.all false
set_option maxRecDepth 100000
set_option maxHeartbeats 1000000
/-! membership in tuples, lists of data laid together -/
namespace L2
open PySem PySem.Spec PySem.SeqAt PyProof.Rows
section
variable {X : Cx}
theorem op_inTD (hu : X.A.units + 65 < cLine) : OpR X (compareOp .In) (fun x y H Q => ∃ d ds, Dp X.K H x d ∧ Dp X.K H y (.tuple ds) ∧ SeqAt.shaped d = true ∧ SeqAt.shaped (.tuple ds) = true ∧ Q (.bl (ds.any fun z => PyData.eqv z d)) H) := by
  intro pins s σ H x y v u Q I rx ry h
  obtain ⟨d, ds, hd, he, sd, se, q⟩ := h
  obtain ⟨as, r1⟩ := Dp.reads I d x v hd rx
  obtain ⟨bs, r2⟩ := Dp.reads I (.tuple ds) y u he ry
  exact SeqAt.in_tuple_reads r2 r1 (SeqAt.canLay_of_shaped se) (SeqAt.canLay_of_shaped sd) (room_in_shaped sd hu) ⟨.bl _, H, I, rfl, q⟩
theorem op_notInTD (hu : X.A.units + 65 < cLine) : OpR X (compareOp .NotIn) (fun x y H Q => ∃ d ds, Dp X.K H x d ∧ Dp X.K H y (.tuple ds) ∧ SeqAt.shaped d = true ∧ SeqAt.shaped (.tuple ds) = true ∧ Q (.bl (!ds.any fun z => PyData.eqv z d)) H) := by
  intro pins s σ H x y v u Q I rx ry h
  obtain ⟨d, ds, hd, he, sd, se, q⟩ := h
  obtain ⟨as, r1⟩ := Dp.reads I d x v hd rx
  obtain ⟨bs, r2⟩ := Dp.reads I (.tuple ds) y u he ry
  exact SeqAt.notIn_tuple_reads r2 r1 (SeqAt.canLay_of_shaped se) (SeqAt.canLay_of_shaped sd) (room_in_shaped sd hu) ⟨.bl _, H, I, rfl, q⟩
theorem op_catV : OpR X (binaryOp .Add) (fun x y H Q => ∃ l b xs zs, x = .ref l ∧ y = .ref b ∧ SqL X.K H l xs ∧ SqL X.K H b zs ∧ xs.length + zs.length ≤ sizeLine ∧ ∀ p, H p = none → Q (.ref p) (upd H p (.lst (xs ++ zs)))) := by
  intro pins s σ H x y v u Q I rx ry h
  obtain ⟨l, b, xs, zs, rfl, rfl, hH, hB, hz, q⟩ := h
  cases rx
  cases ry
  obtain ⟨its, r, pl, _⟩ := I.list hH
  obtain ⟨its2, r2, pl2, _⟩ := I.list hB
  obtain ⟨⟨cls, dd, data, sl⟩, ho, hc, n, hd⟩ := pl.isList
  obtain ⟨⟨cls2, dd2, data2, sl2⟩, ho2, hc2, n2, hd2⟩ := pl2.isList
  simp only at hc hd hc2 hd2
  subst hc hd hc2 hd2
  have hsz : its.toArray.size + its2.toArray.size ≤ sizeLine := by
    rw [List.size_toArray, List.size_toArray, ← r.length, ← r2.length]
    exact hz
  have ea : its.toArray ++ its2.toArray = (its ++ its2).toArray := by simp
  refine concat_meets ⟨_, ho, rfl⟩ ⟨_, ho2, rfl⟩ noFill_list_add seq_list_add PySem.F.slot_list_add PySem.F.entry_list_add (PySem.F.args_list_add_2 _ _) (list_addW l b its.toArray its2.toArray n n2 dd dd2 sl sl2 hsz) ⟨ho, ho2, ?_⟩
  rw [ea]
  exact ⟨.ref _, _, I.lnew (t' := s.toks) (r.append r2) (by rw [List.length_append]; omega), rfl, q _ I.fresh⟩
end
end L2
namespace Dn
open PySem PySem.Spec PyProof.Rows L2
section
variable {X : Cx} {p : Pm} {ρ : Rho} {r ra rb : Rs} {xs ys : List PyData}
theorem ov_inT {d : PyData} {ds : List PyData} (hu : X.A.units + 65 < cLine) (ha : Dv ρ ra d) (hb : Dv ρ rb (.tuple ds)) (sd : SeqAt.shaped d = true) (ss : SeqAt.shaped (.tuple ds) = true) : OpV X p (compareOp .In) ra rb ρ (.da (.bool (ds.any fun z => PyData.eqv z d))) :=
  opv_now (op_inTD hu) fun σ H B w x y H0 F s ia ib => ⟨.bl _, .bl _, fun Q q => ⟨d, ds, dv_ok F ia ha, dv_ok F ib hb, sd, ss, q⟩⟩
theorem ov_notInT {d : PyData} {ds : List PyData} (hu : X.A.units + 65 < cLine) (ha : Dv ρ ra d) (hb : Dv ρ rb (.tuple ds)) (sd : SeqAt.shaped d = true) (ss : SeqAt.shaped (.tuple ds) = true) : OpV X p (compareOp .NotIn) ra rb ρ (.da (.bool (!ds.any fun z => PyData.eqv z d))) :=
  opv_now (op_notInTD hu) fun σ H B w x y H0 F s ia ib => ⟨.bl _, .bl _, fun Q q => ⟨d, ds, dv_ok F ia ha, dv_ok F ib hb, sd, ss, q⟩⟩
/-- lists of any kind laid together -/
theorem ov_catV (ha : Vw ρ ra false xs) (hb : Vw ρ rb false ys) (hl : xs.length + ys.length ≤ 100000) : OpV X p (binaryOp .Add) ra rb ρ (.li (xs ++ ys)) :=
  ⟨_, op_catV, fun σ H B w x y H0 F s ia ib Q k => by
    obtain ⟨l, us, rfl, h1, d1⟩ := vw_ok F ia ha
    obtain ⟨m, ws, rfl, h2, d2⟩ := vw_ok F ib hb
    refine ⟨l, m, us, ws, rfl, rfl, h1, h2, by rw [dpa_len d1, dpa_len d2]; exact Nat.le_trans hl (by decide), fun q hq => ?_⟩
    obtain ⟨s4, F4, i4⟩ := new_lst (T := p.T) F hq (dpa_app d1 d2)
    exact k _ _ _ _ s4 F4 i4⟩
end
end Dn

set_option Elab.async false
set_option linter.all false
set_option maxRecDepth 100000
set_option maxHeartbeats 2000000
/-! zip whose pairs are kept by a name -/
namespace Gz
open PySem PySem.Spec PyProof.Rows L2
open Sem (wp)
theorem turn_zn {P : Program} {w : World} {K : PySem.W.Frag} {nn : Str} {np : Pos} {k1 k2 : Sk} {a b z I O i1 i2 : Addr} {us ws : List V} (D : ZipSep2 z I O i1 i2 [i1, a] [i2, b]) (ha : a ≠ i1) (hb : b ≠ i2) :
    Turn P w K (.Name nn np) (Jz K k1 k2 a b us ws) [z, I, O, i1, i2] z (fun i h => (∃ out b, Zo out ∧ Zg h z I O out b) ∧ Pr2 h I (.ref i1) (.ref i2) ∧ (∃ x y, Pr2 h O x y) ∧ k1.At h i1 a i ∧ k2.At h i2 b i) where
  mem := by simp
  obj := fun i h st c hc => by
    obtain ⟨⟨out, b, ho, hz⟩, hI, ⟨x, y, hO⟩, h1, h2⟩ := st
    have e' : c = z ∨ c = I ∨ c = O ∨ c = i1 ∨ c = i2 := by simpa using hc
    rcases e' with rfl | rfl | rfl | rfl | rfl
    · exact ⟨_, hz, fun v q => nomatch q⟩
    · exact ⟨_, hI, fun v q => nomatch q⟩
    · exact ⟨_, hO, fun v q => nomatch q⟩
    · exact sk_live k1 h1
    · exact sk_live k2 h2
  keep := fun i h h' st k => by
    obtain ⟨⟨out, b, ho, hz⟩, hI, ⟨x, y, hO⟩, h1, h2⟩ := st
    exact ⟨⟨out, b, ho, k z (by simp) _ hz⟩, k I (by simp) _ hI, ⟨x, y, k O (by simp) _ hO⟩, sk_keep k1 h1 fun o q => k i1 (by simp) o q, sk_keep k2 h2 fun o q => k i2 (by simp) o q⟩
  item := by
    intro X hP hw hK hc i pins s σ H E Iv hf st hg
    subst hP hw hK
    obtain ⟨⟨out, b', ho, hz⟩, hI, ⟨x0, y0, hO⟩, h1, h2⟩ := st
    obtain ⟨hi, q1, q2⟩ := hg
    obtain ⟨it1, rv1, p1⟩ := sk_inv k1 Iv q1
    obtain ⟨it2, rv2, p2⟩ := sk_inv k2 Iv q2
    have hzl : z < s.heap.objs.size := Heap.lt_size hz
    have l1 := rv1.length
    have l2 := rv2.length
    have hd : X.A.in1.in1.handled = none := Iv.ok.hd hc
    have hd1 : X.A.in1.handled = none := Iv.ok.hd hc
    refine zg_pyNext D (sk_draws hd1 k1 i1 a ha it1.toArray) (sk_draws hd1 k2 i2 b hb it2.toArray) hz ho hI hO ⟨h1, p1⟩ ⟨h2, p2⟩ (by simp; omega) (by simp; omega) fun u v g tk hu hv af => ?_
    obtain ⟨x, hx, rx⟩ := vals_at rv1 hu
    obtain ⟨y, hy, ry⟩ := vals_at rv2 hv
    refine ⟨_, rfl, wpAny_pure ?_⟩
    have new : ObjOk X.prog X.w (upd H s.heap.objs.size (.tup [x, y])) g s.heap.objs.size (.tup [x, y]) := ⟨by show 2 ≤ sizeLine; decide, [u, v], .cons rx (.cons ry .nil), ⟨_, af.new, rfl, _, rfl⟩⟩
    have kk' : ∀ c o, c ∉ [z, I, O, i1, i2] → s.heap.get? c = some o → g.get? c = some o := fun c o hb q => af.keep c o (fun q' => hb (by simp [q'])) (fun q' => hb (by simp [q'])) (fun q' => hb (by simp [q'])) (fun q' => hb (by simp [q'])) q
    refine ⟨.ref s.heap.objs.size, _, Iv.turnedNew (t' := tk) (ch := [z, I, O, i1, i2]) kk' hf (Nat.le_refl _) new, rfl, ⟨_, x, y, rfl, Iv.hok.fresh (Nat.le_refl _), rfl, hx, hy⟩, ⟨af.zg, af.inn, af.outp, af.s1.1, af.s2.1⟩, fun c hcm => ?_⟩
    have hlt : c < s.heap.objs.size := by
      have e' : c = z ∨ c = I ∨ c = O ∨ c = i1 ∨ c = i2 := by simpa using hcm
      obtain ⟨o1, e1, _⟩ := sk_live k1 h1
      obtain ⟨o2, e2, _⟩ := sk_live k2 h2
      rcases e' with rfl | rfl | rfl | rfl | rfl
      · exact hzl
      · exact Heap.lt_size hI
      · exact Heap.lt_size hO
      · exact Heap.lt_size e1
      · exact Heap.lt_size e2
    rw [upd_ne (Nat.ne_of_lt hlt)]
    exact (hf c hcm).1
  done := by
    intro X hP hw hK hc i pins s σ H E Iv hf st hg
    subst hP hw hK
    obtain ⟨⟨out, b', ho, hz⟩, hI, ⟨x0, y0, hO⟩, h1, h2⟩ := st
    obtain ⟨hi, q1, q2⟩ := hg
    obtain ⟨it1, rv1, p1⟩ := sk_inv k1 Iv q1
    obtain ⟨it2, rv2, p2⟩ := sk_inv k2 Iv q2
    have l1 := rv1.length
    have l2 := rv2.length
    have hd1 : X.A.in1.handled = none := Iv.ok.hd hc
    refine zg_pyNext_end D (sk_draws hd1 k1 i1 a ha it1.toArray) (sk_draws hd1 k2 i2 b hb it2.toArray) hz ho hI hO ⟨h1, p1⟩ ⟨h2, p2⟩ (by simp; omega) (by simp; omega) (by simp; omega) fun g tk hk => ⟨rfl, ?_⟩
    exact Iv.turnedL (t' := tk) (ch := [z, I, O, i1, i2]) (fun c o hb q => hk c o (fun q' => hb (by simp [q'])) (fun q' => hb (by simp [q'])) (fun q' => hb (by simp [q'])) (fun q' => hb (by simp [q'])) q) hf
  self := fun A i s Q E st h => by
    obtain ⟨⟨out, b, ho, hz⟩, _⟩ := st
    have hT : s.TypeIs (.ref z) "zip" := ⟨_, hz, rfl⟩
    refine wpAny_pyIter_slot hT PySem.F.slot_zip_iter (wpAny_call_entry PySem.F.slot_zip_iter hT PySem.F.entry_zip_iter ?_ (PySem.F.args_zip_iter_1 _))
    show wpAny _ _ (ret (.ref z)) _ _ s
    exact wpAny_pure ⟨_, rfl, "zip", _, hT, PySem.F.slot_zip_next.lookup, h⟩
theorem pi_zn {X : Cx} {e e2 : Expr} {ta : TA} {p pos np : Pos} {nn : Str} (hg : Gl X "zip") (hm : X.mg "zip" = none) (ha : PA X [e, e2] ta)
    (hs : starEach [e, e2] X.env = (false, eval e X.env) :: starEach [e2] X.env := by rfl) (hpl : (backTo pos (starEach [e2] X.env)).any (·.1) = false := by rfl) : PI X (.Name nn np) (.Call (.Name "zip" p) [e, e2] [] pos) (iZ X.K ta) := by
  refine ⟨fun pins s σ H R I h => ?_⟩
  refine Call_ (ld_blt I hg hm PyProof.Rows.boot_zip (PyProof.Rows.callWith_type1 (thn (ha.run pos pins s σ H _ I h) fun us s1 ⟨vs, H1, I1, r1, q1⟩ => ?_) hs hpl))
  obtain ⟨k1, k2, a, b, us, ws, ex, g1, g2, q⟩ := q1
  subst ex
  cases r1 with
  | cons r rr =>
    cases rr with
    | cons r' rr =>
      cases rr
      cases r
      cases r'
      obtain ⟨it1, rv1, p1⟩ := sk_inv k1 I1 g1
      obtain ⟨it2, rv2, p2⟩ := sk_inv k2 I1 g2
      have la := sk_lt k1 p1
      have lb := sk_lt k2 p2
      refine zip_begins2 (sk_begins k1 a it1.toArray) (sk_begins k2 b it2.toArray) p1 p2 fun h' hz hI hO h1 h2 hsz hk => wpAny_pyIter_zip hz ?_
      exact ⟨s1.heap.objs.size + 4, [s1.heap.objs.size + 4, s1.heap.objs.size + 2, s1.heap.objs.size + 3, s1.heap.objs.size, s1.heap.objs.size + 1], _, _, H1, rfl, I1.kept (t' := s1.toks) hk,
        turn_zn (zip_sep2 (fun c hc => by rw [List.mem_singleton.mp hc]; exact la) (fun c hc => by rw [List.mem_singleton.mp hc]; exact lb)) (Nat.ne_of_lt la) (Nat.ne_of_lt (Nat.lt_succ_of_lt lb)), ⟨⟨.none, false, .inl rfl, hz⟩, hI, ⟨_, _, hO⟩, sk_at0 k1 h1, sk_at0 k2 h2⟩, fun c hc => I1.fpOk (five hc) (I1.hok.fresh (five hc)), q⟩
end Gz
namespace Dn
open PySem PySem.Spec PyProof.Rows L2 Gz
section
variable {X : Cx} {p : Pm} {ρ ρ1 : Rho} {a b tg : Expr} {pos pos2 : Pos} {xs ys : List PyData}
theorem iv_zn (k1 k2 : Sk) {pp np : Pos} {nn : Str} (hm : X.mg "zip" = none) (h : RA X p [a, b] ρ [.da (k1.lp xs), .da (k2.lp ys)] ρ1) (hg : Gl X "zip" := by rfl)
    (hs : starEach [a, b] X.env = (false, eval a X.env) :: starEach [b] X.env := by rfl) (hpl : (backTo pos (starEach [b] X.env)).any (·.1) = false := by rfl) : IV X p (.Name nn np) (.Call (.Name "zip" pp) [a, b] [] pos) ρ (zipD xs ys) ρ1 := by
  obtain ⟨t, pt, et⟩ := h
  refine ⟨_, pi_zn hg hm pt hs hpl, fun σ H B w F R k0 => et σ H B w F _ fun vs H' B' w' s F' i => ?_⟩
  obtain ⟨v, u, rfl, i1, i2⟩ := itvs2 i
  obtain ⟨l, us, rfl, sq1, d1⟩ := dp_sk k1 i1
  obtain ⟨m, ws, rfl, sq2, d2⟩ := dp_sk k2 i2
  refine ⟨k1, k2, l, m, us, ws, rfl, same_sk k1 F'.ext sq1, same_sk k2 F'.ext sq2, k0 _ H' B' w' s F' (walkd_pair (G := fun H => k1.Sq X.K H l us ∧ k2.Sq X.K H m ws) ⟨fun i H hi g => ⟨hi, g⟩, fun H g => ⟨rfl, g⟩, fun i H x H' hi g y => y⟩ (fun B2 H2 s1 s2 => ⟨same_sk k1 s2 (same_sk k1 s1 sq1), same_sk k2 s2 (same_sk k2 s1 sq2)⟩) d1 d2)⟩
end
end Dn

set_option Elab.async false
set_option linter.all false
set_option maxRecDepth 100000
set_option maxHeartbeats 1000000
/-! what raises inside an expression -/
namespace Dn
open PySem PySem.Spec PyProof.Rows L2
section
variable {X : Cx} {p : Pm} {er : Er} {ρ ρ1 ρ2 : Rho} {a b e tg iter elt : Expr} {ifs : List Expr} {pos pos' : Pos} {ra rb r : Rs} {nm : Str}
theorem rx_binR {op : Operator} {q : R2} (oq : OpR X (binaryOp op) q) (ha : RV X p a ρ ra ρ) (hb : RX X p er b ρ nm) : RX X p er (.BinOp a op b pos) ρ nm := by
  obtain ⟨ta, pa, ea⟩ := ha
  obtain ⟨tb, pb, eb⟩ := hb
  exact ⟨_, pe_op oq pa pb, fun σ H B w F Q k => ea σ H B w F _ fun v H1 B1 w1 s1 F1 i1 => eb σ H1 B1 w1 F1 _ fun d H2 B2 w2 s2 F2 h => k d H2 B2 w2 (s1.trans s2) F2 h⟩
theorem rx_argB {n : Str} {id : String} {pp : Pos} {q : List V → Hp → VK → Prop} (cq : CallR X (.builtin id) q) (h : RX X p er e ρ nm) (hm : X.mg n = none) (hg : Gl X n := by rfl) (hv : bootBuiltins n = some (.builtin id) := by decide +kernel)
    (hn : n ≠ "__name__" := by decide) (hdb : (n == ("__debug__" : Str)) = false := by decide) (he : starEach [e] X.env = (false, eval e X.env) :: starEach [] X.env := by rfl) (hpl : (backTo pos (starEach [] X.env)).any (·.1) = false := by rfl) :
    RX X p er (.Call (.Name n pp) [e] [] pos) ρ nm := by
  obtain ⟨t, pt, et⟩ := h
  exact ⟨_, pe_callB cq hg hm hv (pa_cons pt pa_nil he) hn hdb he hpl, fun σ H B w F Q k => et σ H B w F _ fun d H2 B2 w2 s2 F2 h => k d H2 B2 w2 s2 F2 h⟩
theorem rx_lc {scope : Scope} {own : List (Str × Nat)} (hc : X.calm = true) (hN : X.N.Nodup) (h : RX X p er iter ρ nm) (ok : BlkOk X.N X.env.scope scope own) (hs : ∀ x, foldedSetIterable iter X.env x = pure x := by intro _; rfl) :
    RX X p er (.ListComp elt [⟨tg, iter, ifs, 0⟩] scope pos) ρ nm := by
  obtain ⟨t, pt, et⟩ := h
  exact ⟨_, pe_lc hc hN (pi_tup pt) ok tgb_ok ttb_ok teb_ok hs, fun σ H B w F Q k => et σ H B w F _ fun d H2 B2 w2 s2 F2 h => k d H2 B2 w2 s2 F2 h⟩
end
end Dn

set_option Elab.async false
set_option linter.all false
set_option maxRecDepth 100000
set_option maxHeartbeats 1000000
/-! list.pop -/
namespace Dn
open PySem PySem.Spec PyProof.Rows L2
section
variable {X : Cx} {p : Pm} {ρ ρ1 ρ2 ρ3 : Rho} {a e : Expr} {i : Nat}
theorem dpa_app2 {K : PySem.W.Frag} {B : Hp} : ∀ {vs : List V} {xs ys : List PyData}, DpAll K B vs (xs ++ ys) → ∃ us ws, vs = us ++ ws ∧ DpAll K B us xs ∧ DpAll K B ws ys
  | vs, [], ys, h => ⟨[], vs, rfl, .nil, h⟩
  | _, x :: xs, ys, .cons h r => by
    obtain ⟨us, ws, rfl, h1, h2⟩ := dpa_app2 r
    exact ⟨_ :: us, ws, rfl, .cons h h1, h2⟩
theorem rv_pop {apos cpos : Pos} {xs : List PyData} {z : PyData} (ho : RV X p a ρ (.sl i) ρ1) (hl : ρ1[i]? = some (oo (xs ++ [z])))
    (hbase : attributeBase a "pop" X.env (eval a X.env) = eval a X.env := by rfl) (hline : (apos.endLine == cpos.line) = true := by rfl) (hE : ρ2 = ρ1.set i (oo xs) := by rfl) :
    RV X p (.Call (.Attribute a "pop" apos) [] [] cpos) ρ (.da z) ρ2 := by
  subst hE
  obtain ⟨ta, pa, ea⟩ := ho
  refine ⟨_, pe_bm0 PySem.F.plainAttrs_list PySem.F.slot_list_pop PySem.F.type_list_pop mt_pop pa hbase hline, fun σ H B w F Q k0 => ea σ H B w F _ fun o H1 B1 w1 s1 F1 i1 => ?_⟩
  have i1' : σ[i]? = some (some o) := i1
  obtain ⟨l, us0, g1, g2, g3, g4, g5⟩ := F1.own i _ hl
  rw [g1] at i1'
  obtain rfl : V.ref l = o := Option.some.inj (Option.some.inj i1')
  obtain ⟨us, ws, rfl, d1, d2⟩ := dpa_app2 g5
  cases d2 with
  | cons dz dn =>
    cases dn
    rename_i y
    obtain ⟨s4, F4⟩ := rl_mut F1 hl g1 d1
    refine ⟨.inl ⟨rfl, _, .inl (.inl g4)⟩, l, _, y, rfl, rfl, g4, by simp, ?_⟩
    rw [List.dropLast_concat]
    exact k0 _ _ _ _ (s1.trans s4) F4 dz
end
end Dn

set_option Elab.async false
set_option linter.all false
set_option maxRecDepth 100000
set_option maxHeartbeats 4000000
/-! min(list, key=lambda a: ..) -/
namespace Dn
open PySem PySem.Spec PySem.W PySem.Calls PyProof.Rows L2 LamX
section
variable {X : Cx} {p : Pm} {ρ ρ1 : Rho} {σ : L2.St} {pins : List (Addr × Obj)} {s : Shared} {H H0 B B0 : Hp} {w w0 : Addr → Option Nat} {E : Value → Shared → Prop} {e : Expr} {S I l f : Addr} {us : List V} {kz : Nat → PyData}
def TurnsV (X : Cx) (p : Pm) (ρ : Rho) (σ : L2.St) (pins : List (Addr × Obj)) (w0 : Addr → Option Nat) (B0 H0 : Hp) (A' : Around) (fv : Value) (us : List V) (kz : Nat → PyData) : Prop :=
  ∀ (i : Nat) (u : V) (v : Value), us[i]? = some u → RelV u v → ∀ (pins' : List (Addr × Obj)) (s1 : Shared) (H1 B1 : Hp) (w1 : Addr → Option Nat), (∀ q ∈ pins, q ∈ pins') → L2.Inv X pins' σ H1 s1 → Stp p.T w0 B0 H0 w1 B1 H1 → Rl X.K p.T p.φ B1 w1 H1 σ ρ →
    wpAny (model X.prog X.w) A' (call fv [v]) (fun u' s2 => ∃ y H2 B2 w2, L2.Inv X pins' σ H2 s2 ∧ Stp p.T w1 B1 H1 w2 B2 H2 ∧ Rl X.K p.T p.φ B2 w2 H2 σ ρ ∧ RelV y u' ∧ Dp X.K B2 y (kz i)) (fun _ _ => False) s1
def bI (kz : Nat → PyData) : Nat → Nat
  | 0 => 0
  | j + 1 => if dataLt (kz (j + 1)) (kz (bI kz j)) = true then j + 1 else bI kz j
theorem bI_le (kz : Nat → PyData) : ∀ j, bI kz j ≤ j
  | 0 => Nat.le_refl _
  | j + 1 => by
    unfold bI
    split
    · exact Nat.le_refl _
    · exact Nat.le_trans (bI_le kz j) (Nat.le_succ _)
/-- the best of those seen, its key beside it -/
def Mf (X : Cx) (p : Pm) (ρ : Rho) (σ : L2.St) (pins : List (Addr × Obj)) (w0 : Addr → Option Nat) (B0 H0 : Hp) (S I l : Addr) (us : List V) (kz : Nat → PyData) (j : Nat) (s : Shared) : Prop :=
  ∃ H B w vb u y kv c oI, L2.Inv X ((S, seqObj "list" #[vb, kv] c) :: (I, oI) :: pins) σ H s ∧ Stp p.T w0 B0 H0 w B H ∧ Rl X.K p.T p.φ B w H σ ρ ∧ us[bI kz j]? = some u ∧ RelV u vb ∧ RelV y kv ∧ Dp X.K B y (kz (bI kz j)) ∧ ∀ h : Heap, h.get? I = some oI → h.IsListIter I l (j + 1)
theorem minI_loop {R : PySem.Result → Shared → Prop} (hc : X.calm = true) (hsq : SqL X.K B0 l us) (hlI : l ≠ I) (hSI : S ≠ I) (oS : Ours X pins S) (oI : Ours X pins I)
    (hal : ∀ i j, alike (kz i) (kz j) = true) (hnn : ∀ i, kz i ≠ .none) (hu : ∀ i, X.A.in1.units + (kz i).depth < cLine)
    (turn : TurnsV X p ρ σ pins w0 B0 H0 X.A.in1 (.ref f) us kz)
    (hR : ∀ s H B w v u, L2.Inv X pins σ H s → Stp p.T w0 B0 H0 w B H → Rl X.K p.T p.φ B w H σ ρ → us[bI kz (us.length - 1)]? = some u → RelV u v → R (.ok (.ret v)) s) :
    ∀ (r j : Nat) (s : Shared), us.length - (j + 1) = r → j + 1 ≤ us.length → Mf X p ρ σ pins w0 B0 H0 S I l us kz j s → codeAny (model X.prog X.w) X.A (.builtin "min.loop" ⟨[.ref I, .ref f, .ref S], []⟩) R s := by
  have hname : (toString "min" ++ toString ".loop" : String) = "min.loop" := by decide
  intro r
  induction r with
  | zero =>
    intro j s hr hj ⟨H, B, w, vb, u, y, kv, c, oI', Iv, st, F, hub, rv, ry, dy, hit⟩
    have hin : j + 1 = us.length := by omega
    obtain ⟨hS, hnS⟩ := pin_at Iv (q := (S, seqObj "list" #[vb, kv] c)) (.head _)
    obtain ⟨hI, hnI⟩ := pin_at Iv (q := (I, oI')) (.tail _ (.head _))
    have hS : s.heap.get? S = some (seqObj "list" #[vb, kv] c) := hS
    have hnS : H S = none := hnS
    have hI : s.heap.get? I = some oI' := hI
    have hnI : H I = none := hnI
    obtain ⟨its, rvs, pl, _⟩ := Iv.list (F.ext.seq (st.bb.seq hsq))
    have hh : X.A.in1.handled = none := Iv.ok.hd hc
    have W := Walks.list (prog := X.prog) (w := X.w) (A := X.A.in1) hh I l hlI its.toArray
    have hsz : its.toArray.size = us.length := by rw [List.size_toArray, ← rvs.length]
    refine codeAny_builtin PySem.F.entry_min_loop ?_
    rw [Around.under_plainId PySem.F.plain_min_loop _]
    show wpAny _ X.A.in1 (seqItems? (.ref S) >>= _) _ _ _
    refine wpAny_bind (wpAny_seqItems hS rfl ?_)
    show wpAny _ X.A.in1 (tryCatch (pyNext (.ref I)) _ >>= _) _ _ _
    refine wpAny_bind (wpAny_tryCatch (W.done _ _ _ ⟨by rw [hsz, ← hin]; exact hit _ hI, pl.isList⟩ fun h' tk' hk' => ?_))
    have hS' := hk' S _ (by simpa using hSI) hS
    have s1 := Heap.SameBut.update h' S (Obj.mapSeq fun _ => (#[] : Array Value))
    show wpAny _ X.A.in1 (updateSeq S (fun _ => #[]) >>= _) _ _ _
    refine wpAny_bind ?_
    refine wpAny_updateSeq hS' rfl (wpAny_bind (wpAny_letGo (wpAny_pure ?_)))
    have J0 : L2.Inv X pins σ H { s with heap := h', toks := tk' } := (pin_drop (pin_drop Iv)).turnedL (t' := tk') (ch := [I]) (fun b o hb e => hk' b o hb e) fun b hb => by
      obtain rfl := List.mem_singleton.mp hb
      exact ⟨hnI, oI⟩
    have J1 := J0.turned (h' := h'.update S (Obj.mapSeq fun _ => (#[] : Array Value))) (t' := tk') (fun b o hb e => (s1.2 b hb).trans e) hnS oS.1 oS.2.2.1 oS.2.2.2.1 oS.2.2.2.2
    exact hR _ H B w vb u J1 st F (by rw [← hin]; exact hub) rv
  | succ r ih =>
    intro j s hr hj ⟨H, B, w, vb, u, y, kv, c, oI', Iv, st, F, hub, rv, ry, dy, hit⟩
    have hlt : j + 1 < us.length := by omega
    obtain ⟨hS, hnS⟩ := pin_at Iv (q := (S, seqObj "list" #[vb, kv] c)) (.head _)
    obtain ⟨hI, hnI⟩ := pin_at Iv (q := (I, oI')) (.tail _ (.head _))
    have hS : s.heap.get? S = some (seqObj "list" #[vb, kv] c) := hS
    have hnS : H S = none := hnS
    have hI : s.heap.get? I = some oI' := hI
    have hnI : H I = none := hnI
    obtain ⟨its, rvs, pl, _⟩ := Iv.list (F.ext.seq (st.bb.seq hsq))
    have hh : X.A.in1.handled = none := Iv.ok.hd hc
    have W := Walks.list (prog := X.prog) (w := X.w) (A := X.A.in1) hh I l hlI its.toArray
    have hsz : its.toArray.size = us.length := by rw [List.size_toArray, ← rvs.length]
    refine codeAny_builtin PySem.F.entry_min_loop ?_
    rw [Around.under_plainId PySem.F.plain_min_loop _]
    show wpAny _ X.A.in1 (seqItems? (.ref S) >>= _) _ _ _
    refine wpAny_bind (wpAny_seqItems hS rfl ?_)
    show wpAny _ X.A.in1 (tryCatch (pyNext (.ref I)) _ >>= _) _ _ _
    refine wpAny_bind (wpAny_tryCatch (W.item (j + 1) _ _ _ (by rw [hsz]; exact hlt) ⟨hit _ hI, pl.isList⟩ fun v h' tk' hP hst' hk' => ?_))
    obtain ⟨u2, hu2, rv2⟩ := Gz.vals_at rvs hP
    obtain ⟨oI2, hoI2, hoc, hod⟩ := id hst'.1
    have J0 : L2.Inv X pins σ H { s with heap := h', toks := tk' } := (pin_drop (pin_drop Iv)).turnedL (t' := tk') (ch := [I]) (fun b o hb e => hk' b o hb e) fun b hb => by
      obtain rfl := List.mem_singleton.mp hb
      exact ⟨hnI, oI⟩
    have J1 := pin_add (c := I) (o := oI2) J0 hoI2 hnI oI (fun v z => by rw [hod] at z; cases z)
    have J2 := pin_add (c := S) (o := seqObj "list" #[vb, kv] c) J1 (hk' S _ (by simpa using hSI) hS) hnS (ours_cons oS hSI.symm) seq_nocell
    show wpAny _ X.A.in1 (tryCatch (holding [v] (call (.ref f) [v])) _ >>= _) _ _ _
    refine wpAny_bind (wpAny_tryCatch (wpAny_holding (wpAny_mono (turn (j + 1) u2 v hu2 rv2 _ _ H B w (fun q hq => .tail _ (.tail _ hq)) J2 st F) (fun x s2 he => ?_) fun _ _ hF => hF.elim)))
    obtain ⟨y2, H2, B2, w2, K2, st2, F2, ry2, dy2⟩ := he
    obtain ⟨hS2, hnS2⟩ := pin_at K2 (q := (S, seqObj "list" #[vb, kv] c)) (.head _)
    obtain ⟨hI2, hnI2⟩ := pin_at K2 (q := (I, oI2)) (.tail _ (.head _))
    have hS2 : s2.heap.get? S = some (seqObj "list" #[vb, kv] c) := hS2
    have hnS2 : H2 S = none := hnS2
    have hI2 : s2.heap.get? I = some oI2 := hI2
    have dyb : Dp X.K B2 y (kz (bI kz j)) := dp_mono st2.bb dy
    obtain ⟨as2, rd2⟩ := Dp.reads K2 (kz (j + 1)) y2 x (dp_mono F2.ext dy2) ry2
    obtain ⟨asb, rdb⟩ := Dp.reads K2 (kz (bI kz j)) y kv (dp_mono F2.ext dyb) ry
    have hun : X.A.in1.units + min (kz (j + 1)).depth (kz (bI kz j)).depth < cLine := Nat.lt_of_le_of_lt (Nat.add_le_add_left (Nat.min_le_left _ _) _) (hu (j + 1))
    have hiter : ∀ h : Heap, h.get? I = some oI2 → h.IsListIter I l (j + 1 + 1) := fun h hh => ⟨oI2, hh, hoc, hod⟩
    show wpAny _ X.A.in1 (tryCatch (holding [v, x] (richCompare .Lt x kv >>= _)) _ >>= _) _ _ _
    refine wpAny_bind (wpAny_tryCatch (wpAny_holding (wpAny_bind (lt_data (prog := X.prog) (w := X.w) (A := X.A.in1) rd2 rdb (hal _ _) (hnn _) hun ?_))))
    refine wpAny_bind (wpAny_holding (wpAny_truthy_bool ?_))
    refine wpAny_bind (wpAny_letGo (wpAny_pure ?_))
    by_cases hb' : dataLt (kz (j + 1)) (kz (bI kz j)) = true
    · have eb : bI kz (j + 1) = j + 1 := if_pos hb'
      have s1 := Heap.SameBut.update s2.heap S (Obj.mapSeq fun _ => #[v, x])
      obtain ⟨c2, hc2⟩ : ∃ c2, (s2.heap.update S (Obj.mapSeq fun _ => #[v, x])).get? S = some (seqObj "list" #[v, x] c2) := ⟨_, get?_update_seq hS2 fun _ => #[v, x]⟩
      simp only [hb', if_true]
      refine wpAny_bind ?_
      refine wpAny_updateSeq hS2 rfl (wpAny_bind (wpAny_letGo ?_))
      rw [hname]
      have M0 : L2.Inv X ((I, oI2) :: pins) σ H2 { s2 with heap := s2.heap.update S (Obj.mapSeq fun _ => #[v, x]) } := (pin_drop K2).turned (t' := s2.toks) (fun b o hb e => (s1.2 b hb).trans e) hnS2 oS.1 oS.2.2.1 oS.2.2.2.1 (ours_cons oS hSI.symm).2.2.2.2
      have M1 := pin_add (c := S) (o := seqObj "list" #[v, x] c2) M0 hc2 hnS2 (ours_cons oS hSI.symm) seq_nocell
      exact wpAny_pure ⟨plainId_quiet PySem.F.plain_min_loop _, ih (j + 1) _ (by omega) hlt ⟨H2, B2, w2, v, u2, y2, x, c2, oI2, M1, st.trans st2, F2, by rw [eb]; exact hu2, rv2, ry2, by rw [eb]; exact dy2, hiter⟩⟩
    · have eb : bI kz (j + 1) = bI kz j := if_neg hb'
      simp only [hb', Bool.false_eq_true, if_false]
      refine wpAny_bind (wpAny_letGo ?_)
      rw [hname]
      exact wpAny_pure ⟨plainId_quiet PySem.F.plain_min_loop _, ih (j + 1) _ (by omega) hlt ⟨H2, B2, w2, vb, u, y, kv, c, oI2, K2, st.trans st2, F2, by rw [eb]; exact hub, rv, ry, by rw [eb]; exact dyb, hiter⟩⟩
theorem minI {Q : VK} (I0 : L2.Inv X pins σ H s) (F0 : Rl X.K p.T p.φ B w H σ ρ) (hc : X.calm = true) (hsq : SqL X.K B l us) (hne : 0 < us.length)
    (hal : ∀ i j, alike (kz i) (kz j) = true) (hnn : ∀ i, kz i ≠ .none) (hu : ∀ i, X.A.in1.units + (kz i).depth < cLine)
    (turn : TurnsV X p ρ σ pins w B H X.A.in1 (.ref f) us kz)
    (k0 : ∀ (u : V) (H' B' : Hp) (w' : Addr → Option Nat), Stp p.T w B H w' B' H' → Rl X.K p.T p.φ B' w' H' σ ρ → us[bI kz (us.length - 1)]? = some u → Q u H') :
    wpAny (model X.prog X.w) X.A (call (.builtin "min") [.ref l] [(Str.ofString "key", .ref f)]) (EP X pins σ Q) E s := by
  have hname : (toString "min" ++ toString ".loop" : String) = "min.loop" := by decide
  obtain ⟨its, rvs, pl, _⟩ := I0.list (F0.ext.seq hsq)
  have hls := pl.isList
  obtain ⟨ol, hol, _⟩ := id hls
  have hll : l < s.heap.objs.size := Heap.lt_size hol
  have hh : X.A.in1.handled = none := I0.ok.hd hc
  refine kmk_tree PySem.F.kind_min PySem.F.plain_min PySem.F.entry_min (kmk_min_key _ _) ?_
  show wpAny _ X.A.in1 (Builtin.Builtins.bindParams "min" ["key", "default"] 0 ⟨[], [(Str.ofString "key", .ref f)]⟩ >>= _) _ _ s
  refine wpAny_bind (wpAny_of_eq (show Builtin.Builtins.bindParams "min" ["key", "default"] 0 ⟨[], [(Str.ofString "key", .ref f)]⟩ = pure [some (.ref f), none] from rfl) ?_)
  refine wpAny_bind (wpAny_pure ?_)
  refine wpAny_bind (wpAny_pyIter_list hls ?_)
  refine wpAny_bind (wpAny_newList ?_ (Nat.zero_le _))
  rw [hname]
  have hS : (s.heap.push { cls := .type "list_iterator", data := .fields #[.ref l, .int 0 0] }).objs.size = s.heap.objs.size + 1 := size_push' ..
  have hlI : l ≠ s.heap.objs.size := Nat.ne_of_lt hll
  have hSI : (s.heap.push { cls := .type "list_iterator", data := .fields #[.ref l, .int 0 0] }).objs.size ≠ s.heap.objs.size := by rw [hS]; exact Nat.ne_of_gt (Nat.lt_succ_self _)
  have I1 : L2.Inv X pins σ H { s with heap := s.heap.push { cls := .type "list_iterator", data := .fields #[.ref l, .int 0 0] } } := I0.kept (t' := s.toks) fun b o e => Heap.get?_push_of_some _ e
  have fI : FpOk X pins H s.heap.objs.size := I0.fpOk (Nat.le_refl _) (I0.hok.fresh (Nat.le_refl _))
  have fS : FpOk X pins H (s.heap.push { cls := .type "list_iterator", data := .fields #[.ref l, .int 0 0] }).objs.size := I1.fpOk (Nat.le_refl _) (I1.hok.fresh (Nat.le_refl _))
  have I2 : L2.Inv X pins σ H { s with heap := (s.heap.push { cls := .type "list_iterator", data := .fields #[.ref l, .int 0 0] }).push (seqObj "list" #[] 0) } := I1.kept (t' := s.toks) fun b o e => Heap.get?_push_of_some _ e
  have gI : ((s.heap.push { cls := .type "list_iterator", data := .fields #[.ref l, .int 0 0] }).push (seqObj "list" #[] 0)).get? s.heap.objs.size = some { cls := .type "list_iterator", data := .fields #[.ref l, .int 0 0] } :=
    Heap.get?_push_of_some _ (Heap.get?_push_size _ rfl)
  have gS : ((s.heap.push { cls := .type "list_iterator", data := .fields #[.ref l, .int 0 0] }).push (seqObj "list" #[] 0)).get? (s.heap.push { cls := .type "list_iterator", data := .fields #[.ref l, .int 0 0] }).objs.size = some (seqObj "list" #[] 0) := Heap.get?_push_size _ rfl
  generalize (s.heap.push { cls := .type "list_iterator", data := .fields #[.ref l, .int 0 0] }).objs.size = S at hS hSI fS gS
  have hls2 : ((s.heap.push { cls := .type "list_iterator", data := .fields #[.ref l, .int 0 0] }).push (seqObj "list" #[] 0)).IsList l its.toArray := by
    obtain ⟨o, h1, h2⟩ := hls
    exact ⟨o, Heap.get?_push_of_some _ (Heap.get?_push_of_some _ h1), h2⟩
  have W := Walks.list (prog := X.prog) (w := X.w) (A := X.A.in1) hh s.heap.objs.size l hlI its.toArray
  have hsz : its.toArray.size = us.length := by rw [List.size_toArray, ← rvs.length]
  refine wpAny_pure ⟨plainId_quiet PySem.F.plain_min_loop _, ?_⟩
  refine codeAny_builtin PySem.F.entry_min_loop ?_
  rw [Around.under_plainId PySem.F.plain_min_loop _]
  show wpAny _ X.A.in1 (seqItems? (.ref S) >>= _) _ _ _
  refine wpAny_bind (wpAny_seqItems gS rfl ?_)
  show wpAny _ X.A.in1 (tryCatch (pyNext (.ref s.heap.objs.size)) _ >>= _) _ _ _
  refine wpAny_bind (wpAny_tryCatch (W.item 0 _ _ _ (by rw [hsz]; exact hne) ⟨⟨_, gI, rfl, rfl⟩, hls2⟩ fun v h' tk' hP hst' hk' => ?_))
  obtain ⟨u2, hu2, rv2⟩ := Gz.vals_at rvs hP
  obtain ⟨oI2, hoI2, hoc, hod⟩ := id hst'.1
  have J0 := I2.turnedL (h' := h') (t' := tk') (ch := [s.heap.objs.size]) (fun b o hb e => hk' b o hb e) fun b hb => by
    obtain rfl := List.mem_singleton.mp hb
    exact fI
  have J1 := pin_add (c := s.heap.objs.size) (o := oI2) J0 hoI2 fI.1 fI.2 (fun v z => by rw [hod] at z; cases z)
  have J2 := pin_add (c := S) (o := seqObj "list" #[] 0) J1 (hk' S _ (by simpa using hSI) gS) fS.1 (ours_cons fS.2 hSI.symm) seq_nocell
  show wpAny _ X.A.in1 (tryCatch (holding [v] (call (.ref f) [v])) _ >>= _) _ _ _
  refine wpAny_bind (wpAny_tryCatch (wpAny_holding (wpAny_mono (turn 0 u2 v hu2 rv2 _ _ H B w (fun q hq => .tail _ (.tail _ hq)) J2 Stp.refl F0) (fun x s2 he => ?_) fun _ _ hF => hF.elim)))
  obtain ⟨y2, H2, B2, w2, K2, st2, F2, ry2, dy2⟩ := he
  obtain ⟨hS2, hnS2⟩ := pin_at K2 (q := (S, seqObj "list" #[] 0)) (.head _)
  have hS2 : s2.heap.get? S = some (seqObj "list" #[] 0) := hS2
  have hnS2 : H2 S = none := hnS2
  have s1 := Heap.SameBut.update s2.heap S (Obj.mapSeq fun _ => #[v, x])
  obtain ⟨c2, hc2⟩ : ∃ c2, (s2.heap.update S (Obj.mapSeq fun _ => #[v, x])).get? S = some (seqObj "list" #[v, x] c2) := ⟨_, get?_update_seq hS2 fun _ => #[v, x]⟩
  show wpAny _ X.A.in1 (updateSeq S (fun _ => #[v, x]) >>= _) _ _ _
  refine wpAny_bind ?_
  refine wpAny_updateSeq hS2 rfl ?_
  rw [hname]
  have M0 : L2.Inv X ((s.heap.objs.size, oI2) :: pins) σ H2 { s2 with heap := s2.heap.update S (Obj.mapSeq fun _ => #[v, x]) } := (pin_drop K2).turned (t' := s2.toks) (fun b o hb e => (s1.2 b hb).trans e) hnS2 fS.2.1 fS.2.2.2.1 fS.2.2.2.2.1 (ours_cons fS.2 hSI.symm).2.2.2.2
  have M1 := pin_add (c := S) (o := seqObj "list" #[v, x] c2) M0 hc2 hnS2 (ours_cons fS.2 hSI.symm) seq_nocell
  refine wpAny_pure ⟨plainId_quiet PySem.F.plain_min_loop _, minI_loop (H0 := H) (B0 := B) (w0 := w) hc hsq hlI hSI fS.2 fI.2 hal hnn hu turn (fun s3 H3 B3 w3 v3 u3 Iv3 st3 F3 hu3 rv3 => ?_) _ 0 _ rfl hne ⟨H2, B2, w2, v, u2, y2, x, c2, oI2, M1, st2, F2, hu2, rv2, ry2, dy2, fun h hh => ⟨oI2, hh, hoc, hod⟩⟩⟩
  exact ⟨u3, H3, Iv3, rv3, k0 u3 H3 B3 w3 st3 F3 hu3⟩
theorem bI_is {xs : Nat → PyData} {kf : PyData → PyData} {m : PyData} (hirr : dataLt (kf m) (kf m) = false) : ∀ j, (∀ i, i ≤ j → xs i ≠ m → dataLt (kf (xs i)) (kf m) = false ∧ dataLt (kf m) (kf (xs i)) = true) → (∃ i, i ≤ j ∧ xs i = m) → xs (bI (fun i => kf (xs i)) j) = m
  | 0, _, ⟨i, hi, e⟩ => by
    have : i = 0 := by omega
    subst this
    exact e
  | j + 1, h, ⟨i, hi, e⟩ => by
    have ih := bI_is (xs := xs) (kf := kf) hirr j fun i hi => h i (Nat.le_succ_of_le hi)
    show xs (if dataLt (kf (xs (j + 1))) (kf (xs (bI (fun i => kf (xs i)) j))) = true then j + 1 else bI (fun i => kf (xs i)) j) = m
    by_cases h0 : ∃ i, i ≤ j ∧ xs i = m
    · have eb := ih h0
      rw [eb]
      by_cases hx : xs (j + 1) = m
      · rw [hx, hirr]
        exact eb
      · rw [(h (j + 1) (Nat.le_refl _) hx).1]
        exact eb
    · have hij : i = j + 1 := by
        refine Classical.byContradiction fun z => h0 ⟨i, by omega, e⟩
      subst hij
      have hb : xs (bI (fun i => kf (xs i)) j) ≠ m := fun z => h0 ⟨_, bI_le _ _, z⟩
      have := (h _ (Nat.le_succ_of_le (bI_le (fun i => kf (xs i)) j)) hb).2
      rw [e, this]
      exact e
end
end Dn

set_option Elab.async false
set_option linter.all false
set_option maxRecDepth 100000
set_option maxHeartbeats 4000000
namespace Dn
open PySem PySem.Spec PySem.W PySem.Calls PyProof.Rows L2 LamX
section
variable {X : Cx} {p : Pm} {ρ ρ1 : Rho} {e : Expr}
/-- min(e, key=lambda a: body) of a list of data -/
theorem rv_minK {xs : List PyData} {kf : PyData → PyData} {m : PyData} {k j : Nat} {a : Str} {c P0 : Addr} {params : Arguments} {body : Expr} {scope : Scope} {lpos p1 p4 pos : Pos} (hc : X.calm = true) (h : RV X p e ρ (.da (.list xs)) ρ1)
    (hm : m ∈ xs) (hmin : ∀ d ∈ xs, d ≠ m → dataLt (kf d) (kf m) = false ∧ dataLt (kf m) (kf d) = true) (hirr : dataLt (kf m) (kf m) = false)
    (hal : ∀ d ∈ xs, ∀ d' ∈ xs, alike (kf d) (kf d') = true) (hnn : ∀ d ∈ xs, kf d ≠ .none) (hdp : ∀ d ∈ xs, (kf d).depth ≤ 100)
    (TBx : LamX.TabB X.base X.mg c P0) (hcode : X.env.code = .ref c) (hmT : (P0, X.env.qual ++ "<lambda>") ∈ p.T) (hu : ∀ q ∈ p.T, q.1 = P0 → q.2 = X.env.qual ++ "<lambda>") (hr : Room (k + 3) X.A) (L : LamS1 X.env.scope scope a)
    (hj : X.N[j]? = some a) (hnd : ∀ i, X.N[i]? = some a → i = j) (hρ : ρ1[j]? = some none) (hφ : p.φ j = none)
    (hbody : ∀ d, d ∈ xs → ∀ (A : Around) (s : Shared) (H : Hp) (f c' : Addr), Room k (LamX.lamCx X A X.stack s H (fun _ _ _ => False) scope f c').A →
      RV (LamX.lamCx X A X.stack s H (fun _ _ _ => False) scope f c') p body (ρ1.set j (dd d)) (.da (kf d)) (ρ1.set j (dd d)))
    (hmn : X.mg "min" = none)
    (hdef : defaultsOf params X.env = ([], []) := by rfl) (hbind : ∀ (q : Str) (cl : List (Str × Addr)) (pm cv ctv u : Value), bindArgs (PySem.W.kla_fn "<lambda>" q params body scope cl pm cv ctv) ⟨[u], []⟩ = pure [(a, u)] := by exact fun _ _ _ _ _ _ => rfl)
    (hg : Gl X "min" := by rfl) (na : starEach [e] X.env = (false, eval e X.env) :: starEach [] X.env := by rfl) (hbt : backTo pos (starEach [e] X.env) = (false, eval e X.env) :: backTo pos (starEach [] X.env) := by rfl) (hpl : (backTo pos (starEach [e] X.env)).any (·.1) = false := by rfl) :
    RV X p (.Call (.Name "min" p1) [e] [⟨some "key", .Lambda params body scope lpos, p4⟩] pos) ρ (.da m) ρ1 := by
  obtain ⟨te, pe, ee⟩ := h
  refine ⟨fun σ H Q => ∃ B w, Rl X.K p.T p.φ B w H σ ρ ∧ ∀ v H' B' w', Stp p.T w B H w' B' H' → Rl X.K p.T p.φ B' w' H' σ ρ1 → ItV X.K B' w' H' H σ v (.da m) → Q v H', ⟨fun pins s σ H Q I hq => ?_⟩, fun σ H B w F Q k0 => ⟨B, w, F, k0⟩⟩
  obtain ⟨B, w, F, k0⟩ := hq
  refine wpAny_Call_Name_kw (ld_blt (u := .builtin "min") I hg hmn (by decide +kernel) ?_)
  refine PyProof.Rows.callWith_kw (args_cons (thn (pe.run pins s σ H _ I (ee σ H B w F (fun x H1 => ∃ B1 w1, Dp X.K B1 x (.list xs) ∧ Stp p.T w B H w1 B1 H1 ∧ Rl X.K p.T p.φ B1 w1 H1 σ ρ1) fun v H1 B1 w1 s1 F1 i1 => ⟨B1, w1, i1, s1, F1⟩)) fun v s2 ⟨x, H2, I2, r, q⟩ => args_nil ?_) na) (he := hbt) (hplain := hpl)
  obtain ⟨B1, w1, dx, st1, F1⟩ := q
  obtain ⟨l, us, rfl, sq, du⟩ := dp_list dx
  obtain rfl : v = Value.ref l := r
  have hlen := dpa_len du
  show wpAny _ _ (evalAll ((do let v ← eval (.Lambda params body scope lpos) X.env; standAt pos; pure v) :: [])) _ _ _
  refine wpAny_evalAll_cons (wpAny_bind (lam_make2 I2 TBx hcode hmT hu F1.tabs hdef (L.has I2.ok) fun f c' pm ctv H3 s3 I5 eN tN hf hfn hfr hco => ?_))
  refine wpAny_bind (wpAny_standAt (wpAny_pure (wpAny_evalAll_nil ?_)))
  obtain ⟨st2, F2⟩ := F1.extN eN tN
  have F3 : Rl X.K p.T p.φ B1 (fun q => if q = c' then none else w1 q) H3 σ ρ1 := by
    refine ⟨F2.ext, F2.len, fun q hq => F2.wok q fun z => hq ?_, F2.tabs, F2.nt, F2.fix, F2.dat, fun i xs hi => ?_, fun i O hi => ?_⟩
    · show (if q = c' then none else w1 q) = none
      rw [z]
      split <;> rfl
    · obtain ⟨l, us, h1, h2, h3, h4, h5⟩ := F2.own i xs hi
      have hl : l ≠ c' := fun z => by
        rw [z, hco] at h4
        unfold CodeO at h4
        cases h4
      exact ⟨l, us, h1, by show (if l = c' then none else w1 l) = some i; rw [if_neg hl]; exact h2, h3, h4, h5⟩
    · obtain ⟨l, us, h1, h2, h3, h4, h5⟩ := F2.obj i O hi
      have hl : l ≠ c' := fun z => by
        rw [z, hco] at h4
        exact O.nx h5 _ (Option.some.inj h4).symm
      exact ⟨l, us, h1, by show (if l = c' then none else w1 l) = some i; rw [if_neg hl]; exact h2, h3, h4, h5⟩
  have st3 : Stp p.T w B H (fun q => if q = c' then none else w1 q) B1 H3 := (st1.trans st2).trans ⟨Same.refl _, fun _ _ h _ _ => h, fun _ h => h, fun _ _ h _ => h, fun t => t, fun t => t, fun q hq => .inl fun z => hq (by show (if q = c' then none else w1 q) = none; rw [z]; split <;> rfl)⟩
  have I6 := fun_pin I5 hf rfl hfn hfr
  have gm : ∀ i, xs.getD i m ∈ xs := fun i => by
    rw [List.getD_eq_getElem?_getD]
    cases e : xs[i]? with
    | none => exact hm
    | some d => exact List.mem_of_getElem? e
  have hus : ∀ i, X.A.in1.units + (kf (xs.getD i m)).depth < cLine := fun i => by
    have h1 := hdp _ (gm i)
    have h2 := hr.un
    show X.A.units + 1 + _ < _
    omega
  have hjl : j < ρ1.length := (List.getElem?_eq_some_iff.mp hρ).1
  have hpos : 0 < xs.length := List.length_pos_of_mem hm
  refine wpAny_mono (minI (p := p) (ρ := ρ1) (kz := fun i => kf (xs.getD i m)) (f := f) (l := l) (us := us) (Q := Q) (E := X.xe) I6 F3 hc sq (by omega) (fun i i' => hal _ (gm i) _ (gm i')) (fun i => hnn _ (gm i)) hus (fun i u v hui rv pins' s1 H5 B5 w5 hps I7 st5 F5 => ?_) (fun u H' B' w' st F' hub => ?_)) (fun v s4 hq => ?_) fun _ _ h => h
  · obtain ⟨d, hd, dd5⟩ := dpa_get' du hui
    have ed : xs.getD i m = d := by rw [List.getD_eq_getElem?_getD, hd]; rfl
    have hin := List.mem_of_getElem? hd
    have hc5 : H5 c' = some (CodeO c' (X.env.qual ++ "<lambda>")) := st5.hh c' _ hco (by show (if c' = c' then none else w1 c') = none; rw [if_pos rfl]) fun ps z => codeO_ne ps z
    obtain ⟨hf5, _⟩ := pin_at I7 (hps _ (.head _))
    have r5 : Room (k + 1) X.A.in1 := Room.mono hr.in1 (by omega)
    obtain ⟨tb, pb, eb⟩ := hbody d hin X.A.in1 s1 H5 f c' (r5.deeper _)
    show wpAny _ _ _ (fun u' s2 => ∃ y H2 B2 w2, L2.Inv X pins' σ H2 s2 ∧ _ ∧ _ ∧ RelV y u' ∧ Dp X.K B2 y (kf (xs.getD i m))) _ _
    rw [ed]
    refine wpAny_mono (lam1_call (Q := fun y H6 => ∃ B6 w6, Stp p.T w5 B5 H5 w6 B6 H6 ∧ Rl X.K p.T p.φ B6 w6 H6 σ ρ1 ∧ Dp X.K B6 y (kf d)) I7 L hf5 hc5 rfl r5 hj hnd rv (hbind _ _ _ _ _ _) pb
      (eb _ H5 B5 w5 (F5.setJ hjl hφ (dp_mono st5.bb dd5)) _ fun y H6 B6 w6 st6 F6 i6 => ⟨B6, w6, st6, F6.unsetJ hρ hφ, i6⟩)) (fun u s6 hq6 => ?_) fun _ _ h => h
    obtain ⟨y, H6, I8, r8, B6, w6, st6, F6, d6⟩ := hq6
    exact ⟨y, H6, B6, w6, I8, st6, F6, r8, d6⟩
  · obtain ⟨d, hd, dd5⟩ := dpa_get' du hub
    have ed : xs.getD (bI (fun i => kf (xs.getD i m)) (us.length - 1)) m = d := by rw [List.getD_eq_getElem?_getD, hd]; rfl
    obtain ⟨im, him, eim⟩ := List.getElem_of_mem hm
    have e2 : xs.getD (bI (fun i => kf (xs.getD i m)) (us.length - 1)) m = m := bI_is (xs := fun i => xs.getD i m) (kf := kf) hirr _ (fun i hi hx => hmin _ (gm i) hx) ⟨im, by omega, by rw [List.getD_eq_getElem?_getD, List.getElem?_eq_getElem him, eim]; rfl⟩
    rw [ed] at e2
    subst e2
    exact k0 u H' B' w' (st3.trans st) F' (dp_mono st.bb dd5)
  · obtain ⟨v', H', J, rv, q⟩ := hq
    exact ⟨v', H', pin_drop J, rv, q⟩
end
end Dn

set_option Elab.async false
set_option linter.all false
set_option maxRecDepth 100000
set_option maxHeartbeats 2000000
/-! a def of four arguments: two of data, two lists of the caller's, both changed -/
namespace Dn
open PySem PySem.Spec PyProof.Rows L2
def wG (l m : Addr) : Addr → Option Nat := fun a => if a = l then some 2 else if a = m then some 3 else none
theorem wG_no {l m a : Addr} (h1 : a ≠ l) (h2 : a ≠ m) : wG l m a = none := by
  unfold wG
  rw [if_neg h1, if_neg h2]
def φG (l m : Addr) : Nat → Option V
  | 2 => some (.ref l)
  | 3 => some (.ref m)
  | _ => none
abbrev SG := PyData → PyData → List PyData → List PyData → PyData → List PyData → List PyData → Prop
def spG (K : PySem.W.Frag) (T : List (Addr × Str)) (S : SG) : Sp := fun vs H Q _ =>
  ∃ (l m : Addr) (u1 u2 : V) (x1 x2 : PyData) (ys zs : List PyData) (z : PyData) (ys' zs' : List PyData) (B : Hp) (ws ws2 : List V), vs = [u1, u2, .ref l, .ref m] ∧ S x1 x2 ys zs z ys' zs' ∧ Same B H ∧ LamX.Tabs T H ∧ (∀ a ps, B a ≠ some (.tbl ps)) ∧ Dp K B u1 x1 ∧ Dp K B u2 x2 ∧ l ≠ m ∧
    B l = none ∧ H l = some (.lst ws) ∧ DpAll K B ws ys ∧ B m = none ∧ H m = some (.lst ws2) ∧ DpAll K B ws2 zs ∧
    ∀ v H' B' w' ws' ws2', Stp T (wG l m) B H w' B' H' → Same B' H' → B' l = none → H' l = some (.lst ws') → DpAll K B' ws' ys' → B' m = none → H' m = some (.lst ws2') → DpAll K B' ws2' zs' → Dp K B' v z → Q v H'
theorem ok_G {P : Program} {w0 : World} {K : PySem.W.Frag} {mg : Str → Option Value} {base : Heap} {T : List (Addr × Str)} {x qual : Str} {st : Stmt} {f : Addr} {fd : FuncData} {n0 n1 n2 n3 : Str} {N : List Str} {k : Nat} {C : Addr} {fl : Str} {S : SG} (F : Fun K x qual st f fd) (Sc : FnScope (n0 :: n1 :: n2 :: n3 :: N) [n0, n1, n2, n3] (defScope st))
    (body : ∀ cdv A outer s H E l m, Room k (CxD P w0 K mg base (n0 :: n1 :: n2 :: n3 :: N) qual st f cdv A outer s H E).A → ∀ x1 x2 ys zs z ys' zs', S x1 x2 ys zs z ys' zs' → ∃ ρ, RSs (CxD P w0 K mg base (n0 :: n1 :: n2 :: n3 :: N) qual st f cdv A outer s H E) ⟨T, φG l m⟩ ⟨C, fl, E⟩ (defBody st) (dd x1 :: dd x2 :: oo ys :: oo zs :: startR N []) (.rt (.da z) ρ) ∧ ρ[2]? = some (oo ys') ∧ ρ[3]? = some (oo zs')) :
    FnOk P w0 K mg base (L2.CX P w0) (k + 1) f fd [n0, n1, n2, n3] (spG K T S) := by
  refine F.okX Sc (fun vs H Q E h => ?_) (fun cdv A outer s H vs Q E hr h => ?_)
  · obtain ⟨l, m, u1, u2, x1, x2, ys, zs, z, ys', zs', B, ws, ws2, rfl, _⟩ := h
    rfl
  · obtain ⟨l, m, u1, u2, x1, x2, ys, zs, z, ys', zs', B, ws, ws2, rfl, hS, sB, ht, hnt, d1, d2, hlm, hbl, hl, dl, hbm, hm, dm, post⟩ := h
    obtain ⟨ρ, ⟨t, pt, et⟩, hρ2, hρ3⟩ := body cdv A outer s H E l m hr x1 x2 ys zs z ys' zs' hS
    have F0 := rl_start (K := K) (N := N) (vs := []) (xs := []) sB ht hnt .nil
    have est : L2.start (n0 :: n1 :: n2 :: n3 :: N) [u1, u2, .ref l, .ref m] = some u1 :: some u2 :: some (.ref l) :: some (.ref m) :: L2.start N [] := by
      unfold L2.start
      simp
    have F1 : Rl K T (φG l m) B (wG l m) H (L2.start (n0 :: n1 :: n2 :: n3 :: N) [u1, u2, .ref l, .ref m]) (dd x1 :: dd x2 :: oo ys :: oo zs :: startR N []) := by
      rw [est]
      refine ⟨sB, congrArg (· + 4) F0.len, fun a h => ?_, ht, hnt, fun i v h => ?_, fun i x h => ?_, fun i ys h => ?_, fun i ys h => ?_⟩
      · by_cases ha : a = l
        · rw [ha]
          exact live_lst hl
        · by_cases hb : a = m
          · rw [hb]
            exact live_lst hm
          · exact absurd (wG_no ha hb) h
      · match i, h with
        | 2, h => exact congrArg some h
        | 3, h => exact congrArg some h
      · match i, h with
        | 0, h => cases h; exact ⟨u1, rfl, d1⟩
        | 1, h => cases h; exact ⟨u2, rfl, d2⟩
        | 2, h => cases h
        | 3, h => cases h
        | i + 4, h => exact F0.dat i x h
      · match i, h with
        | 0, h => cases h
        | 1, h => cases h
        | 2, h => cases h; exact ⟨l, ws, rfl, if_pos rfl, hbl, hl, dl⟩
        | 3, h => cases h; exact ⟨m, ws2, rfl, by unfold wG; rw [if_neg hlm.symm, if_pos rfl], hbm, hm, dm⟩
        | i + 4, h =>
          obtain ⟨m, us', h1, h2, _⟩ := F0.own i ys h
          cases h2
      · match i, h with
        | 0, h => cases h
        | 1, h => cases h
        | 2, h => cases h
        | 3, h => cases h
        | i + 4, h =>
          obtain ⟨m, us', h1, h2, _⟩ := F0.obj i ys h
          cases h2
    refine ⟨t, pt, et _ H B _ F1 _ ?_⟩
    intro v σ' H' B' w' st F' i
    have hfix := F'.fix 2 (.ref l) rfl
    have hfix3 := F'.fix 3 (.ref m) rfl
    obtain ⟨l', us', h1, h2, h3, h4, h5⟩ := F'.own 2 ys' hρ2
    rw [h1] at hfix
    obtain rfl : l' = l := V.ref.inj (Option.some.inj (Option.some.inj hfix))
    obtain ⟨m', us2', g1, g2, g3, g4, g5⟩ := F'.own 3 zs' hρ3
    rw [g1] at hfix3
    obtain rfl : m' = m := V.ref.inj (Option.some.inj (Option.some.inj hfix3))
    exact post v H' B' w' us' us2' st F'.ext h3 h4 h5 g3 g4 g5 i
section
variable {X : Cx} {p : Pm} {ρ ρ1 ρ2 : Rho} {e e1 e2 e3 : Expr} {pos : Pos} {n : Str} {k : Nat} {ps : List Str} {kbs : List (List Str × List Nat)}
/-- both lists are of slots -/
theorem rv_callG {pp : Pos} {S : SG} {x1 x2 z : PyData} {ys zs ys' zs' : List PyData} (i j : Nat) (hij : i ≠ j) (D : Df X.prog X.w X.K X.mg X.base n k ps (spG X.K p.T S) kbs) (hr : Room k X.A) (ha : RA X p [e, e1, e2, e3] ρ [.da x1, .da x2, .sl i, .sl j] ρ1) (hi : ρ1[i]? = some (oo ys)) (hj : ρ1[j]? = some (oo zs))
    (hS : S x1 x2 ys zs z ys' zs') (hg : Gl X n := by rfl)
    (hdb : (n == ("__debug__" : Str)) = false := by decide) (he : starEach [e, e1, e2, e3] X.env = (false, eval e X.env) :: starEach [e1, e2, e3] X.env := by rfl) (hpl : (backTo pos (starEach [e1, e2, e3] X.env)).any (·.1) = false := by rfl) (hE : ρ2 = (ρ1.set i (oo ys')).set j (oo zs') := by rfl) :
    RV X p (.Call (.Name n pp) [e, e1, e2, e3] [] pos) ρ (.da z) ρ2 := by
  subst hE
  obtain ⟨f, fd, F, hm, hk, hb, _⟩ := D.ex
  obtain ⟨t, pt, et⟩ := ha
  refine ⟨_, pe_call (E := E0) F hr hg hm hk hb .nil passL pt hdb he hpl, fun σ H B w F0 Q k => et σ H B w F0 _ fun vs H1 B1 w1 s1 F1 i1 => ?_⟩
  show spG X.K p.T S (vs ++ []) H1 Q E0
  rw [List.append_nil]
  obtain ⟨l, ws, h1, h2, h3, h4, h5⟩ := F1.own i ys hi
  obtain ⟨m, ws2, g1, g2, g3, g4, g5⟩ := F1.own j zs hj
  have hlm : l ≠ m := fun z => by
    rw [z, g2] at h2
    exact hij (Option.some.inj h2).symm
  match vs, i1 with
  | [v1, v2, v3, v4], .cons d1 (.cons d2 (.cons d3 (.cons d4 .nil))) =>
    have d3' : σ[i]? = some (some v3) := d3
    rw [h1] at d3'
    obtain rfl : V.ref l = v3 := Option.some.inj (Option.some.inj d3')
    have d4' : σ[j]? = some (some v4) := d4
    rw [g1] at d4'
    obtain rfl : V.ref m = v4 := Option.some.inj (Option.some.inj d4')
    refine ⟨l, m, v1, v2, x1, x2, ys, zs, z, ys', zs', B1, ws, ws2, rfl, hS, F1.ext, F1.tabs, F1.nt, d1, d2, hlm, h3, h4, h5, g3, g4, g5, fun v H2 B2 w2 ws' ws2' s2 e2 b2 l2 q2 bm lm2 qm2 i2 => ?_⟩
    have hw : ∀ a, w1 a = none → wG l m a = none := fun a ha => wG_no (fun e => by rw [e, h2] at ha; cases ha) (fun e => by rw [e, g2] at ha; cases ha)
    have s3 : Stp p.T w1 B1 H1 w1 B2 H2 := ⟨s2.bb, fun a o h hwa n => s2.hh a o h (hw a hwa) n, s2.th, fun a h hb hwa => s2.nb a h hb (hw a hwa), s2.tb, s2.nt, fun a h => .inl h⟩
    have hli : i < ρ1.length := (List.getElem?_eq_some_iff.mp hi).1
    have hlj : j < ρ1.length := (List.getElem?_eq_some_iff.mp hj).1
    have sj : ∀ q, q ≠ i → q ≠ j → ((ρ1.set i (oo ys')).set j (oo zs'))[q]? = ρ1[q]? := fun q a b => by rw [List.getElem?_set_ne (Ne.symm b), List.getElem?_set_ne (Ne.symm a)]
    have si : ((ρ1.set i (oo ys')).set j (oo zs'))[i]? = some (oo ys') := by rw [List.getElem?_set_ne (Ne.symm hij), List.getElem?_set_self hli]
    have sjj : ((ρ1.set i (oo ys')).set j (oo zs'))[j]? = some (oo zs') := by rw [List.getElem?_set_self (by rw [List.length_set]; exact hlj)]
    have F3 : Rl X.K p.T p.φ B2 w1 H2 σ ((ρ1.set i (oo ys')).set j (oo zs')) := by
      refine ⟨e2, by rw [List.length_set, List.length_set]; exact F1.len, fun a h => s2.th a (F1.wok a h), s2.tb F1.tabs, s2.nt F1.nt, F1.fix, fun q z h => ?_, fun q z h => ?_, fun q O h => ?_⟩
      · by_cases hqi : q = i
        · rw [hqi, si] at h; cases h
        · by_cases hqj : q = j
          · rw [hqj, sjj] at h; cases h
          · rw [sj q hqi hqj] at h
            obtain ⟨v, a1, a2⟩ := F1.dat q z h
            exact ⟨v, a1, dq_mono s2.bb a2⟩
      · by_cases hqi : q = i
        · subst hqi
          rw [si] at h
          cases h
          exact ⟨l, ws', h1, h2, b2, l2, q2⟩
        · by_cases hqj : q = j
          · subst hqj
            rw [sjj] at h
            cases h
            exact ⟨m, ws2', g1, g2, bm, lm2, qm2⟩
          · rw [sj q hqi hqj] at h
            obtain ⟨c, us', a1, a2, a3, a4, a5⟩ := F1.own q z h
            have c1 : c ≠ l := fun e => by rw [e, h2] at a2; exact hqi (Option.some.inj a2).symm
            have c2 : c ≠ m := fun e => by rw [e, g2] at a2; exact hqj (Option.some.inj a2).symm
            exact ⟨c, us', a1, a2, s2.nb c (live_lst a4) a3 (wG_no c1 c2), s2.hh c _ a4 (wG_no c1 c2) (fun ps z => by cases z), dpa_mono s2.bb a5⟩
      · by_cases hqi : q = i
        · rw [hqi, si] at h; cases h
        · by_cases hqj : q = j
          · rw [hqj, sjj] at h; cases h
          · rw [sj q hqi hqj] at h
            obtain ⟨c, us', a1, a2, a3, a4, a5, lv, nt⟩ := F1.objx h
            have c1 : c ≠ l := fun e => by rw [e, h2] at a2; exact hqi (Option.some.inj a2).symm
            have c2 : c ≠ m := fun e => by rw [e, g2] at a2; exact hqj (Option.some.inj a2).symm
            exact ⟨c, us', a1, a2, s2.nb c lv a3 (wG_no c1 c2), s2.hh c _ a4 (wG_no c1 c2) nt, O.mono s2.bb a5⟩
    exact k v H2 B2 w1 (s1.trans s3) F3 i2
/-- the second list is new, and let go -/
theorem rv_callG1 {pp : Pos} {S : SG} {x1 x2 z : PyData} {ys zs ys' zs' : List PyData} (i : Nat) (D : Df X.prog X.w X.K X.mg X.base n k ps (spG X.K p.T S) kbs) (hr : Room k X.A) (ha : RA X p [e, e1, e2, e3] ρ [.da x1, .da x2, .sl i, .li zs] ρ1) (hi : ρ1[i]? = some (oo ys))
    (hS : S x1 x2 ys zs z ys' zs') (hg : Gl X n := by rfl)
    (hdb : (n == ("__debug__" : Str)) = false := by decide) (he : starEach [e, e1, e2, e3] X.env = (false, eval e X.env) :: starEach [e1, e2, e3] X.env := by rfl) (hpl : (backTo pos (starEach [e1, e2, e3] X.env)).any (·.1) = false := by rfl) (hE : ρ2 = ρ1.set i (oo ys') := by rfl) :
    RV X p (.Call (.Name n pp) [e, e1, e2, e3] [] pos) ρ (.da z) ρ2 := by
  subst hE
  obtain ⟨f, fd, F, hm, hk, hb, _⟩ := D.ex
  obtain ⟨t, pt, et⟩ := ha
  refine ⟨_, pe_call (E := E0) F hr hg hm hk hb .nil passL pt hdb he hpl, fun σ H B w F0 Q k => et σ H B w F0 _ fun vs H1 B1 w1 s1 F1 i1 => ?_⟩
  show spG X.K p.T S (vs ++ []) H1 Q E0
  rw [List.append_nil]
  obtain ⟨l, ws, h1, h2, h3, h4, h5⟩ := F1.own i ys hi
  match vs, i1 with
  | [v1, v2, v3, v4], .cons d1 (.cons d2 (.cons d3 (.cons d4 .nil))) =>
    have d3' : σ[i]? = some (some v3) := d3
    rw [h1] at d3'
    obtain rfl : V.ref l = v3 := Option.some.inj (Option.some.inj d3')
    obtain ⟨m, ws2, rfl, g0, g2, g3, g4, g5⟩ := d4
    have hlm : l ≠ m := fun z => by
      rw [z, g2] at h2
      cases h2
    refine ⟨l, m, v1, v2, x1, x2, ys, zs, z, ys', zs', B1, ws, ws2, rfl, hS, F1.ext, F1.tabs, F1.nt, d1, d2, hlm, h3, h4, h5, g3, g4, g5, fun v H2 B2 w2 ws' ws2' s2 e2 b2 l2 q2 bm lm2 qm2 i2 => ?_⟩
    have ne : ∀ a, Live H a → a ≠ m := fun a ha z => g0 (z ▸ ha)
    have hw : ∀ a, Live H a → w1 a = none → wG l m a = none := fun a hl ha => wG_no (fun e => by rw [e, h2] at ha; cases ha) (ne a hl)
    have s3 : Stp p.T w B H w1 B2 H2 := ⟨s1.bb.trans s2.bb, fun a o h hwa n => s2.hh a o (s1.hh a o h hwa n) (hw a ⟨o, h, n⟩ (s1.keepW ⟨o, h, n⟩ hwa)) n, fun a h => s2.th a (s1.th a h), fun a h hb hwa => s2.nb a (s1.th a h) (s1.nb a h hb hwa) (hw a h (s1.keepW h hwa)), fun t => s2.tb (s1.tb t), fun t => s2.nt (s1.nt t), s1.ww⟩
    have hli : i < ρ1.length := (List.getElem?_eq_some_iff.mp hi).1
    have F3 : Rl X.K p.T p.φ B2 w1 H2 σ (ρ1.set i (oo ys')) := by
      refine ⟨e2, by rw [List.length_set]; exact F1.len, fun a h => s2.th a (F1.wok a h), s2.tb F1.tabs, s2.nt F1.nt, F1.fix, fun q z h => ?_, fun q z h => ?_, fun q O h => ?_⟩
      · by_cases hqi : q = i
        · rw [hqi, List.getElem?_set_self hli] at h; cases h
        · rw [List.getElem?_set_ne (Ne.symm hqi)] at h
          obtain ⟨v, a1, a2⟩ := F1.dat q z h
          exact ⟨v, a1, dq_mono s2.bb a2⟩
      · by_cases hqi : q = i
        · subst hqi
          rw [List.getElem?_set_self hli] at h
          cases h
          exact ⟨l, ws', h1, h2, b2, l2, q2⟩
        · rw [List.getElem?_set_ne (Ne.symm hqi)] at h
          obtain ⟨c, us', a1, a2, a3, a4, a5⟩ := F1.own q z h
          have c1 : c ≠ l := fun e => by rw [e, h2] at a2; exact hqi (Option.some.inj a2).symm
          have c2 : c ≠ m := fun e => by rw [e, g2] at a2; cases a2
          exact ⟨c, us', a1, a2, s2.nb c (live_lst a4) a3 (wG_no c1 c2), s2.hh c _ a4 (wG_no c1 c2) (fun ps z => by cases z), dpa_mono s2.bb a5⟩
      · by_cases hqi : q = i
        · rw [hqi, List.getElem?_set_self hli] at h; cases h
        · rw [List.getElem?_set_ne (Ne.symm hqi)] at h
          obtain ⟨c, us', a1, a2, a3, a4, a5, lv, nt⟩ := F1.objx h
          have c1 : c ≠ l := fun e => by rw [e, h2] at a2; exact hqi (Option.some.inj a2).symm
          have c2 : c ≠ m := fun e => by rw [e, g2] at a2; cases a2
          exact ⟨c, us', a1, a2, s2.nb c lv a3 (wG_no c1 c2), s2.hh c _ a4 (wG_no c1 c2) nt, O.mono s2.bb a5⟩
    exact k v H2 B2 w1 s3 F3 i2
end
end Dn

set_option Elab.async false
set_option linter.all false
set_option maxRecDepth 100000
set_option maxHeartbeats 1000000
/-! list.index of a datum -/
namespace Dn
open PySem PySem.Spec PyProof.Rows L2
section
variable {X : Cx} {p : Pm} {ρ ρ1 ρ2 : Rho}
theorem rv_indexD (i : Nat) {a e : Expr} {ds : List PyData} {d z : PyData} {j : Nat} {apos cpos : Pos} (hu : X.A.units + 65 < cLine) (ho : RV X p a ρ (.sl i) ρ1) (h : RV X p e ρ1 (.da d) ρ2) (hl : ρ2[i]? = some (oo ds)) (sl : SeqAt.shaped (.list ds) = true) (sd : SeqAt.shaped d = true) (hj : ds[j]? = some z) (hz : PyData.eqv z d = true)
    (hno : ∀ (k : Nat) (x : PyData), k < j → ds[k]? = some x → PyData.eqv x d = false) (hl1 : ∃ ys, ρ1[i]? = some (oo ys))
    (hbase : attributeBase a "index" X.env (eval a X.env) = eval a X.env := by rfl)
    (hfew : ((backTo cpos (starEach [e] X.env)).all (fun x => !x.1) && (backToKw cpos (keywordEach [] X.env)).all (fun x => x.1.isSome)
      && decide ([e].length + ([] : List Keyword).length + (if ([] : List Keyword).isEmpty then 0 else 1) < 30)) = true := by rfl)
    (hline : (apos.endLine == cpos.line) = true := by rfl) (hs : starEach [e] X.env = (false, eval e X.env) :: starEach [] X.env := by rfl) (hplain : (backTo cpos (starEach [] X.env)).any (·.1) = false := by rfl) :
    RV X p (.Call (.Attribute a "index" apos) [e] [] cpos) ρ (.da (.int (j : Int))) ρ2 := by
  obtain ⟨ta, pa, ea⟩ := ho
  obtain ⟨te, pe, ee⟩ := h
  obtain ⟨ys, hys⟩ := hl1
  refine ⟨_, pe_bm PySem.F.plainAttrs_list PySem.F.slot_list_index PySem.F.type_list_index (mt_indexD hu) pa (pa_cons pe pa_nil hs) hbase hfew hline hs hplain, fun σ H B w F Q k0 => ea σ H B w F _ fun o H1 B1 w1 s1 F1 i1 => ?_⟩
  have i1' : σ[i]? = some (some o) := i1
  obtain ⟨l, us0, g1, g2, g3, g4, g5⟩ := F1.own i ys hys
  rw [g1] at i1'
  obtain rfl : V.ref l = o := Option.some.inj (Option.some.inj i1')
  refine ⟨.inl ⟨rfl, us0, .inl (.inl g4)⟩, ee σ H1 B1 w1 F1 _ fun v H2 B2 w2 s2 F2 i2 => ?_⟩
  have dl : Dp X.K H2 (.ref l) (.list ds) := dv_ok (H0 := H1) F2 (show ItV X.K B2 w2 H2 H1 σ (.ref l) (.sl i) from g1) (.sl hl)
  exact ⟨l, v, d, ds, j, z, rfl, rfl, dl, dp_mono F2.ext i2, sl, sd, hj, hz, hno, k0 _ H2 B2 w2 (s1.trans s2) F2 (.int _)⟩
end
end Dn

set_option Elab.async false
set_option linter.all false
set_option maxRecDepth 100000
set_option maxHeartbeats 1000000
/-! list.pop at an index -/
namespace Dn
open PySem PySem.Spec PyProof.Rows L2
section
variable {X : Cx} {p : Pm} {ρ ρ1 ρ2 ρ3 : Rho} {a e : Expr} {i : Nat}
theorem dpa_er {K : PySem.W.Frag} {B : Hp} : ∀ {vs : List V} {xs : List PyData} {k : Nat}, DpAll K B vs xs → DpAll K B (vs.eraseIdx k) (xs.eraseIdx k)
  | _, _, _, .nil => .nil
  | _, _, 0, .cons h r => r
  | _, _, k + 1, .cons h r => .cons h (dpa_er r)
theorem seq_nat {k n : Nat} (h : k < n) : seqIndex? (k : Int) n = some k := by
  unfold seqIndex?
  have h1 : ¬ ((k : Int) < 0) := by omega
  have h2 : (k : Int) < (n : Int) := by omega
  simp [h1, h2]
theorem rv_popAt (i : Nat) {apos cpos : Pos} {xs : List PyData} {z : PyData} {k : Nat} (ho : RV X p a ρ (.sl i) ρ1) (h : RV X p e ρ1 (.da (.int (k : Int))) ρ2) (hl : ρ2[i]? = some (oo xs)) (hz : xs[k]? = some z) (hn : xs.length ≤ 1000) (hl1 : ∃ ys, ρ1[i]? = some (oo ys))
    (hbase : attributeBase a "pop" X.env (eval a X.env) = eval a X.env := by rfl)
    (hfew : ((backTo cpos (starEach [e] X.env)).all (fun x => !x.1) && (backToKw cpos (keywordEach [] X.env)).all (fun x => x.1.isSome)
      && decide ([e].length + ([] : List Keyword).length + (if ([] : List Keyword).isEmpty then 0 else 1) < 30)) = true := by rfl)
    (hline : (apos.endLine == cpos.line) = true := by rfl) (hs : starEach [e] X.env = (false, eval e X.env) :: starEach [] X.env := by rfl) (hplain : (backTo cpos (starEach [] X.env)).any (·.1) = false := by rfl)
    (hE : ρ3 = ρ2.set i (oo (xs.eraseIdx k)) := by rfl) :
    RV X p (.Call (.Attribute a "pop" apos) [e] [] cpos) ρ (.da z) ρ3 := by
  subst hE
  obtain ⟨ta, pa, ea⟩ := ho
  obtain ⟨te, pe, ee⟩ := h
  obtain ⟨ys, hys⟩ := hl1
  refine ⟨_, pe_bm PySem.F.plainAttrs_list PySem.F.slot_list_pop PySem.F.type_list_pop mt_popAt pa (pa_cons pe pa_nil hs) hbase hfew hline hs hplain, fun σ H B w F Q k0 => ea σ H B w F _ fun o H1 B1 w1 s1 F1 i1 => ?_⟩
  have i1' : σ[i]? = some (some o) := i1
  obtain ⟨l, us0, g1, g2, g3, g4, g5⟩ := F1.own i ys hys
  rw [g1] at i1'
  obtain rfl : V.ref l = o := Option.some.inj (Option.some.inj i1')
  refine ⟨.inl ⟨rfl, us0, .inl (.inl g4)⟩, ee σ H1 B1 w1 F1 _ fun v H2 B2 w2 s2 F2 i2 => ?_⟩
  obtain ⟨l2, us, q1, q2, q3, q4, q5⟩ := F2.own i xs hl
  rw [g1] at q1
  obtain rfl : l = l2 := V.ref.inj (Option.some.inj (Option.some.inj q1))
  have i2' : Dp X.K B2 v (.int (k : Int)) := i2
  obtain rfl := dp_int i2'
  obtain ⟨y, hy, dy⟩ := dpa_get q5 hz
  have hk : k < us.length := (List.getElem?_eq_some_iff.mp hy).1
  have len := dpa_len q5
  obtain ⟨s4, F4⟩ := rl_mut F2 hl g1 (dpa_er (k := k) q5)
  exact ⟨l, us, (k : Int), k, y, rfl, rfl, q4, by omega, by omega, seq_nat hk, hy, k0 _ _ _ _ (s1.trans (s2.trans s4)) F4 dy⟩
end
end Dn

set_option Elab.async false
set_option linter.all false
set_option maxRecDepth 100000
set_option maxHeartbeats 1000000
/-! list(range(e)) -/
namespace Dn
open PySem PySem.Spec PyProof.Rows L2
section
variable {X : Cx} {p : Pm} {ρ ρ1 ρ2 ρ3 : Rho} {a e : Expr} {i : Nat}
theorem dpa_rg {K : PySem.W.Frag} {B : Hp} (n : Nat) : DpAll K B (rgV 0 (n : Int)) (rngD 0 n) := by
  unfold rgV rngD
  rw [show ((n : Int) - 0).toNat = n by omega]
  generalize List.range n = l
  induction l with
  | nil => exact .nil
  | cons a l ih => exact .cons (.int _) ih
theorem rv_lrng {p1 p2 p3 p4 : Pos} {n : Nat} (h : RV X p e ρ (.da (.int (n : Int))) ρ1) (hn : n ≤ 1000) (hc : X.calm = true) (hm : X.mg "range" = none) (hml : X.mg "list" = none) (hg : Gl X "range" := by rfl) (hgl : Gl X "list" := by rfl)
    (na : starEach [e] X.env = (false, eval e X.env) :: starEach [] X.env := by rfl) (nl : starEach [.Call (.Name "range" p1) [e] [] p2] X.env = (false, eval (.Call (.Name "range" p1) [e] [] p2) X.env) :: starEach [] X.env := by rfl) :
    RV X p (.Call (.Name "list" p3) [.Call (.Name "range" p1) [e] [] p2] [] p4) ρ (.li (rngD 0 n)) ρ1 := by
  obtain ⟨te, pe, ee⟩ := h
  refine ⟨_, pe_listRg hc hgl hml (prg_1 hg hm pe na) nl, fun σ H B w F Q k0 => ee σ H B w F _ fun v H1 B1 w1 s1 F1 i1 => ?_⟩
  have i1' : Dp X.K B1 v (.int (n : Int)) := i1
  obtain rfl := dp_int i1'
  refine ⟨(n : Int), rfl, RgOk.of_le (by omega) (by omega) (by omega) (by omega), fun q hq => ?_⟩
  obtain ⟨s4, F4, i4⟩ := new_lst (T := p.T) F1 hq (dpa_rg n)
  exact k0 _ _ _ _ (s1.trans s4) F4 (i4.back s1)
end
end Dn

set_option Elab.async false
set_option linter.all false
set_option maxRecDepth 100000
set_option maxHeartbeats 2000000
/-! sorted(t), t a tuple of alike data -/
namespace PySem.W
open PySem PySem.Calls PyProof.Rows
section
variable {prog : Program} {w : World} {A : Around} {E : Value → Shared → Prop} {s : Shared} {vs : List Value}
theorem sortedT_vals {κ : Heap → PyProof.Rows.KeyKind} {l : Addr} {o : Obj} {n : Nat} {Q : Value → Shared → Prop} (ho : s.heap.get? l = some o) (hc : o.cls = .type "tuple") (hd : o.data = .seq vs.toArray n) (hL : vs.length ≤ sizeLine)
    (S : ∀ h' : Heap, (∀ b o', s.heap.get? b = some o' → h'.get? b = some o') → SortsAt prog w A.in1.in1 { s with heap := sortingHeap (h'.push (seqObj "list" vs.toArray 0)) h'.objs.size vs } (κ h') vs)
    (h : ∀ h' : Heap, (∀ b o', s.heap.get? b = some o' → h'.get? b = some o') → Q (.ref h'.objs.size) { s with heap := sortedHeap (h'.push (seqObj "list" vs.toArray 0)) h'.objs.size vs (sortVals (κ h') false vs vs).toArray }) :
    wpAny (model prog w) A (call (.builtin "sorted") [.ref l]) Q E s := by
  refine call_function_entry_kw kind_sorted plain_sorted entry_sorted (args_sorted1 _) ?_
  unfold Builtin.«sorted»
  refine wpAny_bind (m := checkCount "sorted" 1 1 _) (wpAny_pure ?_)
  refine wpAny_bind (wpAny_collect_seq l (.inr rfl) ho hc hd (fun h' hk => ?_) (by simpa using hL))
  have e0 : (vs.toArray).toList = vs := by simp
  rw [e0]
  refine wpAny_bind (wpAny_newList ?_ hL)
  have hat : (h'.push (seqObj "list" vs.toArray 0)).get? h'.objs.size = some (seqObj "list" vs.toArray 0) := Heap.get?_push_size _ rfl
  refine wpAny_bind (wpAny_holding (wpAny_call_entry_kw slot_list_sort ⟨_, hat, rfl⟩ entry_list_sort ?body (args_list_sort _)))
  case body =>
    show wpAny (model prog w) A.in1.in1 (Builtin.«list.sort» ⟨[.ref h'.objs.size], []⟩) _ _ _
    refine wpAny_mono (list_sort_vals (κ := κ h') (P := fun f s' => f = .done (.ret .none) ∧ Q (.ref h'.objs.size) s') (s := { s with heap := h'.push (seqObj "list" vs.toArray 0) }) hat (S h' hk) hL ⟨rfl, h h' hk⟩) (fun f s' hf => ?_) fun _ _ e => e
    obtain ⟨rfl, hq⟩ := hf
    exact ⟨_, rfl, wpAny_pure ⟨_, rfl, hq⟩⟩
theorem sortedT_any {β : Type} {bs : List β} {enc : β → PyData} {R : Value → β → Prop} {l : Addr} {o : Obj} {n : Nat} {Q : Value → Shared → Prop} (ho : s.heap.get? l = some o) (hc : o.cls = .type "tuple") (hd : o.data = .seq vs.toArray n) (e : EachIs R vs bs) (er : EachIs (fun v b => ∃ as, Reads s.heap v (enc b) as) vs bs)
    (hal : AllAlike (bs.map enc)) (hk : Sortable (bs.map enc) ∨ (bs.map enc).length ≤ 1 ∧ ∀ d ∈ bs.map enc, d ≠ .none) (hL : bs.length ≤ sizeLine) (hu : ∀ b, b ∈ bs → A.units + 2 + (enc b).depth < cLine)
    (h : ∀ (h' : Heap) (out : List Value), (∀ b o', s.heap.get? b = some o' → h'.get? b = some o') → out.length = bs.length → EachIs R out (bs.mergeSort (dataLe false enc)) → Q (.ref h'.objs.size) { s with heap := sortedHeap (h'.push (seqObj "list" vs.toArray 0)) h'.objs.size vs (List.toArray out) }) : wpAny (model prog w) A (call (.builtin "sorted") [.ref l]) Q E s := by
  have old : ∀ h' : Heap, (∀ b o', s.heap.get? b = some o' → h'.get? b = some o') → ∀ b o', s.heap.get? b = some o' → (sortingHeap (h'.push (seqObj "list" vs.toArray 0)) h'.objs.size vs).get? b = some o' := fun h' hk b o' hb =>
    sortingHeap_old (Nat.ne_of_lt (Heap.lt_size (hk b o' hb))) (Heap.get?_push_of_some _ (hk b o' hb))
  have behind : ∀ h' : Heap, (∀ b o', s.heap.get? b = some o' → h'.get? b = some o') → EachIs (fun v b => ∃ as, Reads (sortingHeap (h'.push (seqObj "list" vs.toArray 0)) h'.objs.size vs) v (enc b) as) vs bs := fun h' hk => er.mono fun _ _ z => by
    obtain ⟨as, r⟩ := z
    exact ⟨as, PyProof.Rows.Reads.keeps (fun _ _ => old h' hk _ _) r⟩
  refine sortedT_vals (κ := fun h' => dataKind (sortingHeap (h'.push (seqObj "list" vs.toArray 0)) h'.objs.size vs) (bs.map enc)) ho hc hd (by rw [e.length]; exact hL) (fun h' hk' => ?_) fun h' hk' => ?_
  · exact sorts_any (prog := prog) (w := w) (A := A.in1.in1) (s := { s with heap := sortingHeap (h'.push (seqObj "list" vs.toArray 0)) h'.objs.size vs }) (each_map (R := fun v d => ∃ as, Reads (sortingHeap (h'.push (seqObj "list" vs.toArray 0)) h'.objs.size vs) v d as) enc (behind h' hk')) hal hk (bound_map hu)
  · exact h h' _ hk' (by rw [sortVals_length false rfl]; exact e.length) (sortVals_data false e (behind h' hk') hal)
end
end PySem.W

namespace Dn
open PySem PySem.Spec PySem.Calls PyProof.Rows L2
section
variable {X : Cx} {p : Pm} {ρ ρ1 : Rho} {r : Rs}
def rSortDT (K : PySem.W.Frag) : List V → Hp → VK → Prop := fun vs H Q => ∃ (a : Addr) (ps : List (V × PyData)), vs = [V.ref a] ∧ SqT K H a (ps.map (·.1)) ∧ (∀ q ∈ ps, Dp K H q.1 q.2) ∧ PySem.W.AllAlike (ps.map (·.2)) ∧
  (PySem.W.Sortable (ps.map (·.2)) ∨ (ps.map (·.2)).length ≤ 1 ∧ ∀ d ∈ ps.map (·.2), d ≠ .none) ∧ ps.length ≤ 50000 ∧ (∀ q ∈ ps, q.2.depth ≤ 50) ∧ ∀ b, H b = none → Q (.ref b) (upd H b (.lst ((ps.mergeSort (PySem.W.dataLe false (·.2))).map (·.1))))
theorem cr_sortDT (hc : X.calm = true) (hu : X.A.units + 64 < cLine) : CallR X (.builtin "sorted") (rSortDT X.K) := by
  intro pins s σ H vs us Q I rv h
  obtain ⟨a, ps, rfl, hs, hd, hal, hk, hL, hdep, q⟩ := h
  obtain ⟨its, r2, pl, hz⟩ := I.tuple hs
  obtain ⟨o, ho, hcl, n, hda⟩ := pl
  rw [Vals.ref1 rv]
  obtain ⟨e1, e2⟩ := each_pairs I r2 hd
  refine PySem.W.sortedT_any (enc := fun q : V × PyData => q.2) ho hcl hda e1 e2 hal hk (by rw [sizeLine_eq]; omega) (fun b hb => by have := hdep b hb; omega) fun h' out hk' ho' eo => ?_
  obtain ⟨ep, he⟩ := sortedHeap_at (vs := its) (out := List.toArray out) (n := 0) (show (h'.push (seqObj "list" its.toArray 0)).get? h'.objs.size = some (seqObj "list" its.toArray 0) from Heap.get?_push_size _ rfl)
  have hlen : ((ps.mergeSort (PySem.W.dataLe false (fun q : V × PyData => q.2))).map (·.1)).length ≤ sizeLine := by
    rw [List.length_map, List.length_mergeSort, sizeLine_eq]
    omega
  have I1 : Inv X pins σ H { s with heap := h' } := I.kept (t' := s.toks) hk'
  have old : ∀ b u, h'.get? b = some u → (sortedHeap (h'.push (seqObj "list" its.toArray 0)) h'.objs.size its (List.toArray out)).get? b = some u := fun b u hb => by
    have hlt := Heap.lt_size hb
    rw [sortedHeap_old (Nat.ne_of_lt hlt) (by rw [size_push']; exact Nat.lt_succ_of_lt hlt)]
    exact Heap.get?_push_of_some _ hb
  exact ⟨.ref h'.objs.size, upd H h'.objs.size (.lst ((ps.mergeSort (PySem.W.dataLe false (fun q : V × PyData => q.2))).map (·.1))), I1.laid (t' := s.toks) old (Nat.le_refl _) ⟨hlen, out, ep, vals_each eo, he⟩, rfl, q _ (I1.hok.fresh (Nat.le_refl _))⟩
/-- sorted(t), t a tuple -/
theorem cv_sortDT {ds : List PyData} (hc : X.calm = true) (hu : X.A.units + 64 < cLine) (hv : Vw ρ r true ds) (hal : PySem.W.AllAlike ds) (hk : PySem.W.Sortable ds ∨ ds.length ≤ 1 ∧ ∀ d ∈ ds, d ≠ .none) (hL : ds.length ≤ 50000) (hdep : ∀ d ∈ ds, d.depth ≤ 50) :
    CalV X p (.builtin "sorted") [r] ρ (.li (ds.mergeSort (PySem.W.dataLe false id))) :=
  ⟨_, cr_sortDT hc hu, fun σ H B w vs H0 F i Q k => by
    obtain ⟨v, rfl, i1⟩ := itvs1 i
    obtain ⟨l, us, rfl, sq, d⟩ := vw_ok F i1 hv
    obtain ⟨z1, z2, z3⟩ := zip_fst d
    have len : (us.zip ds).length = ds.length := by
      have := congrArg List.length z2
      rwa [List.length_map] at this
    refine ⟨l, us.zip ds, rfl, by rw [z1]; exact sq, fun q hq => dp_mono F.ext (z3 q hq), by rw [z2]; exact hal, by rw [z2]; exact hk, by omega, fun q hq => ?_, fun b hb => ?_⟩
    · refine hdep _ ?_
      rw [← z2]
      exact List.mem_map_of_mem hq
    · have dm := dpa_of_mem (ps := (us.zip ds).mergeSort (PySem.W.dataLe false (fun q : V × PyData => q.2))) fun q hq => z3 q (List.mem_mergeSort.mp hq)
      have em : ((us.zip ds).mergeSort (PySem.W.dataLe false (fun q : V × PyData => q.2))).map (·.2) = ds.mergeSort (PySem.W.dataLe false id) := by
        have := List.map_mergeSort (f := fun q : V × PyData => q.2) (r := PySem.W.dataLe false (fun q : V × PyData => q.2)) (s := PySem.W.dataLe false id) (l := us.zip ds) (fun a _ b _ => rfl)
        rw [this, z2]
      rw [em] at dm
      obtain ⟨s2, F2, i2⟩ := new_lst (T := p.T) F hb dm
      exact k _ _ _ _ s2 F2 i2⟩
end
end Dn

set_option Elab.async false
set_option linter.all false
set_option maxRecDepth 100000
set_option maxHeartbeats 2000000
/-! texts -/
namespace Dn
open PySem PySem.Spec PyProof.Rows L2 TL
/-- the text of signs -/
def tx (l : List Nat) : Str := ⟨l.toArray⟩
def TX (l : List Nat) : PyData := .str (tx l)
theorem tx_tl (z : Str) : tx (tl z) = z := mk_tl z
theorem tl_tx (l : List Nat) : tl (tx l) = l := rfl
theorem tx_len (l : List Nat) : (tx l).length = l.length := by rw [len_tl]; rfl
theorem tx_inj {a b : List Nat} (h : tx a = tx b) : a = b := by
  have := congrArg tl h
  exact this
theorem TX_inj {a b : List Nat} (h : TX a = TX b) : a = b := tx_inj (by injection h)
section
variable {X : Cx} {p : Pm} {er : Er} {ρ ρ1 ρ2 ρ3 : Rho} {a b e : Expr} {pos pos' : Pos} {r : Rs}
/-- a text of the module -/
theorem rv_gstr {n : Str} {z : Str} (h : ∃ t, X.mg n = some (.str z t)) (hg : Gl X n := by rfl) (hd : (n == ("__debug__" : Str)) = false := by decide) : RV X p (.Name n pos) ρ (.da (.str z)) ρ :=
  let ⟨_, hm⟩ := h
  ⟨_, pe_glob (v := .str z) hg hm ⟨_, rfl⟩ hd, evs_c fun _ => .str z⟩
theorem ov_catX {x y : List Nat} (h : x.length + y.length ≤ 100000) : OpV X p (binaryOp .Add) (.da (TX x)) (.da (TX y)) ρ (.da (TX (x ++ y))) := by
  have : TX (x ++ y) = .str (tx x ++ tx y) := by
    unfold TX
    congr 1
    exact ext_tl (by rw [tl_append]; rfl)
  rw [this]
  exact ov_catS (by rw [tx_len, tx_len, sizeLine_eq]; omega)
theorem cv_lenX {x : List Nat} (h : x.length ≤ 100000) : CalV X p (.builtin "len") [.da (TX x)] ρ (.da (.int (x.length : Int))) :=
  cal_now call_len_str fun σ H B w vs H0 F i => by
    obtain ⟨v, rfl, i1⟩ := itvs1 i
    obtain rfl := dp_str i1
    refine ⟨.int ((tx x).length : Nat), ?_, fun Q q => ⟨tx x, rfl, by rw [tx_len, sizeLine_eq]; omega, q⟩⟩
    rw [tx_len]
    exact .int _
theorem cv_strN {n : Nat} (h : n < 2 ^ 64) : CalV X p (.type "str") [.da (.int (n : Int))] ρ (.da (TX (numL n))) :=
  cal_now call_str_int fun σ H B w vs H0 F i => by
    obtain ⟨v, rfl, i1⟩ := itvs1 i
    obtain rfl := dp_int i1
    refine ⟨.str (toString (n : Int)), ?_, fun Q q => ⟨(n : Int), rfl, ?_, q⟩⟩
    · have : TX (numL n) = .str (Str.ofString (toString (n : Int))) := by
        unfold TX
        congr 1
        exact ext_tl (tl_num n).symm
      rw [this]
      exact .str _
    · have : (n : Int).natAbs = n := Int.natAbs_natCast n
      rw [this]
      by_cases h0 : n = 0
      · subst h0
        decide
      · exact Nat.lt_trans ((Nat.log2_lt h0).mpr h) (by decide)
theorem cv_intX {x : List Nat} (hd : NumText.AllDigits x) (hne : x ≠ []) (hl : x.length ≤ 600) : CalV X p (.type "int") [.da (TX x)] ρ (.da (.int (NumText.digitsVal x : Nat))) :=
  cal_now call_int_str fun σ H B w vs H0 F i => by
    obtain ⟨v, rfl, i1⟩ := itvs1 i
    obtain rfl := dp_str i1
    exact ⟨.int (NumText.digitsVal x : Nat), .int _, fun Q q => ⟨tx x, (NumText.digitsVal x : Nat), rfl, PySem.intText_digits hd hne (by rw [tx_len]; omega), by rw [tx_len]; omega, q⟩⟩
theorem ov_eqX {x y : List Nat} : OpV X p (compareOp .Eq) (.da (TX x)) (.da (TX y)) ρ (.da (.bool (decide (x = y)))) :=
  opv_now op_eq fun σ H B w u v H0 F s ia ib => by
    obtain rfl := dp_str ia
    obtain rfl := dp_str ib
    have e : decide (x = y) = decide (V.str (tx x) = V.str (tx y)) := decide_eq_decide.mpr ⟨fun h => h ▸ rfl, fun h => tx_inj (V.str.inj h)⟩
    exact ⟨.bl _, .bl _, fun Q q => ⟨rfl, by rw [← e]; exact q⟩⟩
theorem ov_neX {x y : List Nat} : OpV X p (compareOp .NotEq) (.da (TX x)) (.da (TX y)) ρ (.da (.bool (!decide (x = y)))) :=
  opv_now op_ne fun σ H B w u v H0 F s ia ib => by
    obtain rfl := dp_str ia
    obtain rfl := dp_str ib
    have e : decide (x = y) = decide (V.str (tx x) = V.str (tx y)) := decide_eq_decide.mpr ⟨fun h => h ▸ rfl, fun h => tx_inj (V.str.inj h)⟩
    exact ⟨.bl _, .bl _, fun Q q => ⟨rfl, by rw [← e]; exact q⟩⟩
theorem ov_inSign {c : Nat} {z : Str} : OpV X p (compareOp .In) (.da (TX [c])) (.da (.str z)) ρ (.da (.bool (decide (c ∈ tl z)))) :=
  opv_now op_in_sign fun σ H B w u v H0 F s ia ib => by
    obtain rfl := dp_str ia
    obtain rfl := dp_str ib
    exact ⟨.bl _, .bl _, fun Q q => ⟨c, z, rfl, rfl, q⟩⟩
/-- the signs of a text -/
theorem iv_strX {tg iter : Expr} {x : List Nat} (h : RV X p iter ρ (.da (TX x)) ρ1) : IV X p tg iter ρ (x.map fun c => TX [c]) ρ1 := by
  obtain ⟨t, pt, et⟩ := h
  refine ⟨_, pi_str pt, fun σ H B w F R k => et σ H B w F _ fun v H' B' w' s F' d => ?_⟩
  have d' : Dp X.K B' v (TX x) := d
  obtain rfl := dp_str d'
  have sz : (tx x).cps.size = x.length := by
    show x.toArray.size = _
    rw [List.size_toArray]
  refine ⟨tx x, rfl, k _ H' B' w' s F' ⟨fun _ => True, (Its (tx x)).yld, ⟨fun i _ hi _ => ?_, fun _ _ => ?_, fun _ _ _ _ _ _ y => y⟩, fun _ _ _ _ => trivial, fun i H2 B2 v H3 s1 s2 hi y => ?_⟩⟩
  · show i < (tx x).cps.size
    rw [sz]
    rwa [List.length_map] at hi
  · show (tx x).cps.size ≤ _
    rw [sz, List.length_map]
    exact Nat.le_refl _
  · obtain ⟨e, c, hc, rfl⟩ := y
    have hc : x.toArray[i]? = some c := hc
    rw [List.getElem?_toArray] at hc
    exact ⟨TX [c], by rw [List.getElem?_map, hc]; rfl, .inl ⟨e, .str _⟩⟩
theorem dpa_TX {K : PySem.W.Frag} {B : Hp} : ∀ ls : List (List Nat), DpAll K B ((ls.map tx).map V.str) (ls.map TX)
  | [] => .nil
  | l :: ls => .cons (.str _) (dpa_TX ls)
theorem dpa_TXo {K : PySem.W.Frag} {B : Hp} : ∀ {ls : List (List Nat)} {us : List V}, DpAll K B us (ls.map TX) → us = (ls.map tx).map V.str
  | [], _, .nil => rfl
  | l :: ls, _, .cons h r => by
    have h' : Dp K B _ (TX l) := h
    rw [dp_str h', dpa_TXo r]
    rfl
/-- text.split(sep), sep of one sign -/
theorem rv_splitX {apos cpos : Pos} {x : List Nat} {s : Nat} (hs : s < 256) (ho : RV X p a ρ (.da (TX x)) ρ1) (h : RV X p e ρ1 (.da (TX [s])) ρ2) (hl : x.length ≤ 50000)
    (hst : starEach [e] X.env = [(false, eval e X.env)] := by rfl) (hbase : attributeBase a "split" X.env (eval a X.env) = eval a X.env := by rfl) (hline : (apos.endLine == cpos.line) = true := by rfl) :
    RV X p (.Call (.Attribute a "split" apos) [e] [] cpos) ρ (.li ((spl [s] 0 [] x).map TX)) ρ2 := by
  obtain ⟨ta, pa, ea⟩ := ho
  obtain ⟨te, pe, ee⟩ := h
  refine ⟨_, pe_split pa pe hst hbase hline, fun σ H B w F Q k0 => ea σ H B w F _ fun o H1 B1 w1 s1 F1 i1 => ?_⟩
  have i1' : Dp X.K B1 o (TX x) := i1
  obtain rfl := dp_str i1'
  refine ⟨⟨_, rfl⟩, ee σ H1 B1 w1 F1 _ fun v H2 B2 w2 s2 F2 i2 => ?_⟩
  have i2' : Dp X.K B2 v (TX [s]) := i2
  obtain rfl := dp_str i2'
  have e1 : (Txt.split (tx x) (tx [s])) = (spl [s] 0 [] x).map tx := by
    have h := split_spl (tx x) (tx [s]) (by rw [tl_tx]; simp) (kind_ok (by show (#[s] : Array Nat).all (· < 256) = true; simp [hs]))
    have h : (Txt.split (tx x) (tx [s])).map tl = spl [s] 0 [] x := h
    rw [← h, List.map_map]
    exact ((List.map_congr_left fun z _ => tx_tl z).trans (List.map_id _)).symm
  refine ⟨tx x, tx [s], rfl, rfl, rfl, by rw [tx_len, sizeLine_eq]; omega, fun q hq => ?_⟩
  rw [e1]
  obtain ⟨s4, F4, i4⟩ := new_lst (T := p.T) F2 hq (dpa_TX (spl [s] 0 [] x))
  exact k0 _ _ _ _ ((s1.trans s2).trans s4) F4 (i4.back (s1.trans s2))
/-- sep.join(a list of texts) -/
theorem rv_joinX {apos cpos : Pos} {x : List Nat} {ls : List (List Nat)} (ho : RV X p a ρ (.da (TX x)) ρ1) (h : RV X p e ρ1 r ρ2) (hv : Vw ρ2 r false (ls.map TX)) (hl : (ls.map (·.length)).sum + ls.length * x.length ≤ 100000)
    (hst : starEach [e] X.env = [(false, eval e X.env)] := by rfl) (hbase : attributeBase a "join" X.env (eval a X.env) = eval a X.env := by rfl) (hline : (apos.endLine == cpos.line) = true := by rfl) :
    RV X p (.Call (.Attribute a "join" apos) [e] [] cpos) ρ (.da (TX (joinL x ls))) ρ2 := by
  obtain ⟨ta, pa, ea⟩ := ho
  obtain ⟨te, pe, ee⟩ := h
  refine ⟨_, pe_join pa pe hst hbase hline, fun σ H B w F Q k0 => ea σ H B w F _ fun o H1 B1 w1 s1 F1 i1 => ?_⟩
  have i1' : Dp X.K B1 o (TX x) := i1
  obtain rfl := dp_str i1'
  refine ⟨⟨_, rfl⟩, ee σ H1 B1 w1 F1 _ fun v H2 B2 w2 s2 F2 i2 => ?_⟩
  obtain ⟨l, us, rfl, sq, d⟩ := vw_ok F2 i2 hv
  obtain rfl := dpa_TXo d
  refine ⟨tx x, l, ls.map tx, rfl, rfl, .inl sq, ?_, ?_⟩
  · rw [List.map_map, List.length_map, tx_len]
    have : (ls.map (Str.length ∘ tx)) = ls.map (·.length) := List.map_congr_left fun l _ => tx_len l
    rw [this]
    omega
  · have e1 : TX (joinL x ls) = .str (Txt.join (tx x) (ls.map tx)) := by
      unfold TX
      congr 1
      refine ext_tl ?_
      rw [join_eq, tl_join, List.map_map, tl_tx, tl_tx]
      congr 1
      exact (List.map_id ls).symm
    refine k0 _ _ _ _ (s1.trans s2) F2 ?_
    rw [e1]
    exact .str _
/-- a part of a text -/
theorem rv_cutX {lo hi : Option Expr} {l u : Option Int} {pos2 : Pos} {x : List Nat} (ha : RV X p a ρ (.da (TX x)) ρ1) (hl : RO X p lo ρ1 l) (hh : RO X p hi ρ1 u) (hx : x.length ≤ 100000) : RV X p (.Subscript a (.Slice lo hi none pos2) pos) ρ (.da (TX (cutA x l u))) ρ1 := by
  obtain ⟨ta, pa, ea⟩ := ha
  obtain ⟨tl, pl, el⟩ := hl
  obtain ⟨th, ph, eh⟩ := hh
  refine ⟨_, pe_slice sl_str pa pl ph, fun σ H B w F Q k => ea σ H B w F _ fun v H1 B1 w1 s1 F1 i1 => el σ H1 B1 w1 F1 _ fun H2 B2 w2 s2 F2 => eh σ H2 B2 w2 F2 _ fun H3 B3 w3 s3 F3 => ?_⟩
  have i1' : Dp X.K B1 v (TX x) := i1
  obtain rfl := dp_str i1'
  refine ⟨tx x, rfl, by rw [tx_len, sizeLine_eq]; omega, ?_⟩
  have e1 : TX (cutA x l u) = .str (cutS (tx x) l u) := by
    unfold TX cutS cutA
    rw [tx_len]
    rfl
  refine k _ _ _ _ ((s1.trans s2).trans s3) F3 ?_
  rw [e1]
  exact .str _
/-- text[i:], where i is rolled -/
theorem rv_cutXr {lo : Expr} {i : Int} {pos2 : Pos} {x : List Nat} (ha : RV X p a ρ (.da (TX x)) ρ1) (hl : RV X p lo ρ1 (.da (.int i)) ρ2) (hx : x.length ≤ 100000) : RV X p (.Subscript a (.Slice (some lo) none none pos2) pos) ρ (.da (TX (cutA x (some i) none))) ρ2 := by
  obtain ⟨ta, pa, ea⟩ := ha
  obtain ⟨tl, pl, el⟩ := hl
  refine ⟨_, pe_slice sl_str pa (po_some pl) po_none, fun σ H B w F Q k => ea σ H B w F _ fun v H1 B1 w1 s1 F1 i1 => el σ H1 B1 w1 F1 _ fun y H2 B2 w2 s2 F2 i2 => ⟨i, dp_int i2, ?_⟩⟩
  have i1' : Dp X.K B1 v (TX x) := i1
  obtain rfl := dp_str i1'
  refine ⟨tx x, rfl, by rw [tx_len, sizeLine_eq]; omega, ?_⟩
  have e1 : TX (cutA x (some i) none) = .str (cutS (tx x) (some i) none) := by
    unfold TX cutS cutA
    rw [tx_len]
    rfl
  refine k _ _ _ _ (s1.trans s2) F2 ?_
  rw [e1]
  exact .str _
end
/-! text * int -/
section
variable {X : Cx} {p : Pm} {ρ : Rho}
theorem fold_rep (x : Array Nat) : ∀ (n : Nat) (acc : Array Nat), ((List.replicate n x).foldl (· ++ ·) acc).toList = acc.toList ++ (List.replicate n x.toList).flatten
  | 0, acc => by simp
  | n + 1, acc => by
    rw [List.replicate_succ, List.foldl_cons, fold_rep x n]
    simp [List.replicate_succ]
theorem op_repX : OpR X (binaryOp .Mult) (fun x y H Q => ∃ (z : List Nat) (n : Int), x = .str (tx z) ∧ y = .int n ∧ z.length ≤ 10000 ∧ -1000 ≤ n ∧ n ≤ 10000 ∧ z.length * n.toNat ≤ 100000 ∧ Q (.str (tx (List.replicate n.toNat z).flatten)) H) := by
  intro pins s σ H x y v u Q I rx ry h
  obtain ⟨z, n, rfl, rfl, hz, h1, h2, hp, q⟩ := h
  obtain ⟨t, rfl⟩ := rx
  obtain ⟨t', rfl⟩ := ry
  have zl := tx_len z
  have e0 : ∀ k : Nat, (⟨(List.replicate k (tx z).cps).foldl (· ++ ·) #[]⟩ : Str) = tx (List.replicate k z).flatten := fun k => ext_tl (by
    show ((List.replicate k (tx z).cps).foldl (· ++ ·) #[]).toList = (List.replicate k z).flatten
    rw [fold_rep]
    rfl)
  refine PySem.P.mul_str (by rw [decide_eq_false (by omega), decide_eq_false (by omega)]; rfl) (fun hn _ => ?_) (fun _ _ => ?_) ?_
  · rw [zl]
    have h3 : (z.length : Int) * n ≤ 2 ^ 63 - 1 := by
      have h4 : (z.length : Int) * n = ((z.length * n.toNat : Nat) : Int) := by
        rw [Int.natCast_mul, Int.toNat_of_nonneg (by omega)]
      omega
    have := Int.le_ediv_of_mul_le (show 0 < n by omega) h3
    omega
  · rw [zl]
    unfold Builtin.Str.tooLong
    rw [sizeLine_eq]
    exact decide_eq_false (by omega)
  · by_cases hn : n < 1
    · rw [if_pos hn]
      have e : (List.replicate n.toNat z).flatten = [] := by rw [show n.toNat = 0 by omega]; rfl
      rw [e] at q
      exact ⟨by decide, .str _, H, I.tok _, ⟨_, rfl⟩, q⟩
    · rw [if_neg hn]
      split
      · rename_i hc
        have e : (List.replicate n.toNat z).flatten = z := by
          rw [Bool.or_eq_true] at hc
          rcases hc with hc | hc
          · have : n = 1 := by simpa using hc
            rw [this]
            simp
          · have : (tx z).length = 0 := by simpa using hc
            rw [zl] at this
            rw [List.eq_nil_of_length_eq_zero this]
            simp
        rw [e] at q
        exact ⟨.str (tx z), H, I, ⟨t, rfl⟩, q⟩
      · rw [e0]
        refine ⟨?_, .str _, H, I.tok _, ⟨_, rfl⟩, q⟩
        rw [tx_len, sizeLine_eq]
        have : (List.replicate n.toNat z).flatten.length = n.toNat * z.length := by simp
        rw [this, Nat.mul_comm]
        omega
theorem ov_repX {z : List Nat} {n : Int} (hz : z.length ≤ 10000) (h1 : -1000 ≤ n) (h2 : n ≤ 10000) (hp : z.length * n.toNat ≤ 100000) : OpV X p (binaryOp .Mult) (.da (TX z)) (.da (.int n)) ρ (.da (TX (List.replicate n.toNat z).flatten)) :=
  opv_now op_repX fun σ H B w x y H0 F s ia ib => ⟨.str _, .str _, fun Q q => ⟨z, n, dp_str ia, dp_int ib, hz, h1, h2, hp, q⟩⟩
end
end Dn

set_option Elab.async false
set_option linter.all false
set_option maxRecDepth 100000
set_option maxHeartbeats 2000000
/-! try: return call except C as e: return e.fl, where e.fl is an int -/
namespace Dn
open PySem PySem.Spec PyProof.Rows L2
/-- what the written part tells of an own exception that is caught -/
structure XcT (K : PySem.W.Frag) (C : Addr) (fl : Str) : Prop where
  hx : PySem.W.exmOne K (.ref C) (.ref C) = some true
  xf : XfC K C
  no : PySem.W.findIn K (.ref C) fl = some none
section
variable {X : Cx} {p : Pm} {er : Er} {ρ : Rho} {call : Expr}
theorem rs_told (i : Nat) {C : Addr} {fl cn n2 : Str} {z : PyData} {p3 p4 p5 p6 p7 p8 p9 : Pos} (R : XcT X.K C fl) (hg : X.mg cn = some (.ref C))
    (hbody : ∀ (pn : List (Addr × Obj)) (xe : Value → Shared → Prop) (Ec : XK), Takes (X.tr pn xe) (fun cls d _ H => Ec cls d H) → (∃ n : Int, z = .int n ∧ RX (X.tr pn xe) p ⟨C, fl, Ec⟩ call ρ (.i n)) ∨ RV (X.tr pn xe) p call ρ (.da z) ρ)
    (hN : X.N.Nodup) (hs : X.stack = X.env :: X.outer := by rfl) (hf : X.env.frame = some X.env.locals := by rfl) (hi : X.N[i]? = some n2 := by rfl) (hln : X.env.kindOf n2 = some .local := by rfl) (hgl : Gl X cn := by rfl) (hde : (cn == ("__debug__" : Str)) = false := by decide) (hd2 : (n2 == ("__debug__" : Str)) = false := by decide)  (hcd2 : (n2 == ("__classdict__" : Str)) = false := by decide)
    (hat : attributeBase (.Name n2 p5) fl X.env (eval (.Name n2 p5) X.env) = eval (.Name n2 p5) X.env := by rfl) (hv : Vis X.env.scope n2 := by first | exact Or.inl rfl | exact Or.inr (Or.inl rfl) | exact Or.inr (Or.inr rfl)) :
    RS X p er (.Try [.Return (some call) p3] [.ExceptHandler (some (.Name cn p4)) (some n2) [.Return (some (.Attribute (.Name n2 p5) fl p6)) p7] p8] [] [] p9) ρ (.rt (.da z) ρ) := by
  have hlt : i < X.N.length := (List.getElem?_eq_some_iff.mp hi).1
  refine ⟨_, ps_try_as (X := X) (c := .ref C) (i := i) (n := n2)
      (tb := fun W D σ H => ∃ Ec : XK, (∀ cls d σ' H', Ec cls d H' → W cls d σ' H') ∧ ∀ pn xe, Takes (X.tr pn xe) (fun cls d _ H => Ec cls d H) → ∃ t, PE (X.tr pn xe) call t ∧ t σ H D.rt)
      (ts := fun a cls d D σ H => σ.length = X.N.length → tRet (tXf a cls d C fl (tVar i)) D σ H) (Wout := fun _ _ _ _ => False)
      hs hf hN hi hln ⟨hgl, hde, .inl hg⟩ takes0 (fun W pn xe tk _ => ?_) (fun a oe cls d pn hz hf => ?_), ?_⟩
  · refine ⟨fun pins s' σ H' D I h' => ?_⟩
    obtain ⟨Ec, hW, e3⟩ := h'
    obtain ⟨t, pt, ht⟩ := e3 pn xe (tk.imp fun c d σ H h => hW c d σ H h)
    exact (pss_one (ps_ret (pos := p3) pt)).run pins s' σ H' D I ht
  · have hp := pss_one (ps_ret (pos := p7) (pe_xf (X := X) (pos := p6) (te := tVar i) R.xf R.no hz hf (pe_var (X := X.suite a ((a, oe) :: pn)) (i := i) hi hv hd2 hcd2) hat))
    exact pss_len hp
  · intro σ H B w F D k
    refine ⟨fun cls d H' => cls = .ref C ∧ ∃ dd n, d = some dd ∧ H' dd = some (.xd [(fl, .int n)]) ∧ D.rt (.int n) H', fun cls d σ' H' hE => ?_, fun pn xe tk => ?_⟩
    · obtain ⟨rfl, dd, nm, rfl, hxd, hq⟩ := hE
      refine ⟨true, R.hx, fun _ a ha hlen => ?_, fun z => by cases z⟩
      have h1 : (σ'.set i (some (.ref a)))[i]? = some (some (.ref a)) := by
        rw [List.length_set] at hlen
        exact List.getElem?_set_self (by omega)
      exact ⟨.ref a, h1, rfl, rfl, dd, _, .int nm, rfl, hxd, by simp [List.lookup], hq⟩
    · rcases hbody pn xe _ tk with ⟨n, rfl, h⟩ | h
      · obtain ⟨t, pt, et⟩ := h
        exact ⟨t, pt, et σ H B w F _ fun d H2 B2 w2 s2 F2 hd => ⟨rfl, d, n, rfl, hd, k (.int n) σ H2 B2 w2 s2 F2 (.int n)⟩⟩
      · obtain ⟨t, pt, et⟩ := h
        exact ⟨t, pt, et σ H B w F _ fun v H2 B2 w2 s2 F2 i2 => k v σ H2 B2 w2 s2 F2 i2⟩
end
end Dn

set_option Elab.async false
set_option linter.all false
set_option maxRecDepth 100000
set_option maxHeartbeats 1000000
namespace KX
open PySem PySem.Spec PyProof.Rows L2 Dn
def topS (i : Nat) : Stmt := PySem.Challenge.pw_smokehung_k14_whole_days_and_things_as_t.main.body.getD i (.Pass ⟨0, 0, 0, 0⟩)
abbrev s_demand : Stmt := topS 5
abbrev N_demand : List Str := ["is_good", "name"]
theorem sc_demand : FnScope N_demand ["is_good", "name"] (defScope s_demand) := ⟨rfl, rfl, rfl, by decide +kernel, rfl, by decide +kernel, by decide +kernel⟩
abbrev s_is_in : Stmt := topS 6
abbrev N_is_in : List Str := ["value", "low", "high"]
theorem sc_is_in : FnScope N_is_in ["value", "low", "high"] (defScope s_is_in) := ⟨rfl, rfl, rfl, by decide +kernel, rfl, by decide +kernel, by decide +kernel⟩
abbrev s_is_tuple : Stmt := topS 7
abbrev N_is_tuple : List Str := ["value", "least", "most"]
theorem sc_is_tuple : FnScope N_is_tuple ["value", "least", "most"] (defScope s_is_tuple) := ⟨rfl, rfl, rfl, by decide +kernel, rfl, by decide +kernel, by decide +kernel⟩
abbrev s_are_in : Stmt := topS 8
abbrev N_are_in : List Str := ["value", "least", "most", "low", "high", "one"]
theorem sc_are_in : FnScope N_are_in ["value", "least", "most", "low", "high"] (defScope s_are_in) := ⟨rfl, rfl, rfl, by decide +kernel, rfl, by decide +kernel, by decide +kernel⟩
abbrev s_is_thing : Stmt := topS 14
abbrev N_is_thing : List Str := ["value", "days"]
theorem sc_is_thing : FnScope N_is_thing ["value", "days"] (defScope s_is_thing) := ⟨rfl, rfl, rfl, by decide +kernel, rfl, by decide +kernel, by decide +kernel⟩
abbrev s_demand_house : Stmt := topS 15
abbrev N_demand_house : List Str := ["most", "things", "one"]
theorem sc_demand_house : FnScope N_demand_house ["most", "things"] (defScope s_demand_house) := ⟨rfl, rfl, rfl, by decide +kernel, rfl, by decide +kernel, by decide +kernel⟩
abbrev s_write_house : Stmt := topS 19
abbrev N_write_house : List Str := ["most", "things", "lines", "thing", "one"]
theorem sc_write_house : FnScope N_write_house ["most", "things"] (defScope s_write_house) := ⟨rfl, rfl, rfl, by decide +kernel, rfl, by decide +kernel, by decide +kernel⟩
abbrev s_number_of : Stmt := topS 20
abbrev N_number_of : List Str := ["word", "sign"]
theorem sc_number_of : FnScope N_number_of ["word"] (defScope s_number_of) := ⟨rfl, rfl, rfl, by decide +kernel, rfl, by decide +kernel, by decide +kernel⟩
abbrev s_numbers_of : Stmt := topS 21
abbrev N_numbers_of : List Str := ["line", "first", "words", "found", "word"]
theorem sc_numbers_of : FnScope N_numbers_of ["line", "first"] (defScope s_numbers_of) := ⟨rfl, rfl, rfl, by decide +kernel, rfl, by decide +kernel, by decide +kernel⟩
abbrev s_read_house : Stmt := topS 22
abbrev N_read_house : List Str := ["text", "lines", "most", "things", "at", "line", "thing"]
theorem sc_read_house : FnScope N_read_house ["text"] (defScope s_read_house) := ⟨rfl, rfl, rfl, by decide +kernel, rfl, by decide +kernel, by decide +kernel⟩
abbrev s_draw : Stmt := topS 23
abbrev N_draw : List Str := ["plan", "things", "lines", "begin", "end", "low", "high", "smoke", "sign", "one"]
theorem sc_draw : FnScope N_draw ["plan", "things"] (defScope s_draw) := ⟨rfl, rfl, rfl, by decide +kernel, rfl, by decide +kernel, by decide +kernel⟩
abbrev s__law_dice : Stmt := topS 25
abbrev N__law_dice : List Str := ["script", "spot", "own", "mixed", "cell"]
theorem sc__law_dice : FnScope N__law_dice ["script", "spot"] (defScope s__law_dice) := ⟨rfl, rfl, rfl, by decide +kernel, rfl, by decide +kernel, by decide +kernel⟩
abbrev s__law_roll : Stmt := topS 26
abbrev N__law_roll : List Str := ["dice", "total", "found"]
theorem sc__law_roll : FnScope N__law_roll ["dice", "total"] (defScope s__law_roll) := ⟨rfl, rfl, rfl, by decide +kernel, rfl, by decide +kernel, by decide +kernel⟩
abbrev s__law_pick : Stmt := topS 27
abbrev N__law_pick : List Str := ["dice", "things"]
theorem sc__law_pick : FnScope N__law_pick ["dice", "things"] (defScope s__law_pick) := ⟨rfl, rfl, rfl, by decide +kernel, rfl, by decide +kernel, by decide +kernel⟩
abbrev s__law_refused : Stmt := topS 28
abbrev N__law_refused : List Str := ["call", "e"]
theorem sc__law_refused : FnScope N__law_refused ["call"] (defScope s__law_refused) := ⟨rfl, rfl, rfl, by decide +kernel, rfl, by decide +kernel, by decide +kernel⟩
abbrev s__law_house : Stmt := topS 29
abbrev N__law_house : List Str := ["dice", "days", "found", "turn", "begin", "low", "day"]
theorem sc__law_house : FnScope N__law_house ["dice"] (defScope s__law_house) := ⟨rfl, rfl, rfl, by decide +kernel, rfl, by decide +kernel, by decide +kernel⟩
abbrev s__law_text : Stmt := topS 30
abbrev N__law_text : List Str := ["most", "things", "lines", "fires", "thing"]
theorem sc__law_text : FnScope N__law_text ["most", "things"] (defScope s__law_text) := ⟨rfl, rfl, rfl, by decide +kernel, rfl, by decide +kernel, by decide +kernel⟩
abbrev s__law_numbers : Stmt := topS 31
abbrev N__law_numbers : List Str := ["words", "most", "found", "word", "sign"]
theorem sc__law_numbers : FnScope N__law_numbers ["words", "most"] (defScope s__law_numbers) := ⟨rfl, rfl, rfl, by decide +kernel, rfl, by decide +kernel, by decide +kernel⟩
abbrev s__law_read : Stmt := topS 32
abbrev N__law_read : List Str := ["text", "lines", "things", "words", "most", "at", "line", "own"]
theorem sc__law_read : FnScope N__law_read ["text"] (defScope s__law_read) := ⟨rfl, rfl, rfl, by decide +kernel, rfl, by decide +kernel, by decide +kernel⟩
abbrev s__law_told : Stmt := topS 33
abbrev N__law_told : List Str := ["text", "e"]
theorem sc__law_told : FnScope N__law_told ["text"] (defScope s__law_told) := ⟨rfl, rfl, rfl, by decide +kernel, rfl, by decide +kernel, by decide +kernel⟩
abbrev s__law_changed : Stmt := topS 34
abbrev N__law_changed : List Str := ["dice", "text", "way", "at", "lines", "place", "new", "words"]
theorem sc__law_changed : FnScope N__law_changed ["dice", "text"] (defScope s__law_changed) := ⟨rfl, rfl, rfl, by decide +kernel, rfl, by decide +kernel, by decide +kernel⟩
abbrev s_law : Stmt := topS 35
abbrev N_law : List Str := ["script", "spot", "dice", "own", "text", "turn", "lines", "thing", "line", "smoke", "sign", "due", "told", "most", "things", "day", "fires"]
theorem sc_law : FnScope N_law ["script"] (defScope s_law) := ⟨rfl, rfl, rfl, by decide +kernel, rfl, by decide +kernel, by decide +kernel⟩
abbrev kb_read_house : List (List Str × List Nat) := [(["text"], [0])]
abbrev kb_draw : List (List Str × List Nat) := [(["things", "plan"], [1, 0])]
abbrev kb_write_house : List (List Str × List Nat) := [(["things", "most"], [1, 0])]
structure Txt (P : Program) (w : World) (K : PySem.W.Frag) (mg : Str → Option Value) (base : Heap) (TT : List (Addr × Str)) (C : Addr) : Prop where
  b_enumerate : mg "enumerate" = none
  b_tuple : mg "tuple" = none
  b_range : mg "range" = none
  b_isinstance : mg "isinstance" = none
  b_int : mg "int" = none
  b_all : mg "all" = none
  b_sum : mg "sum" = none
  b_max : mg "max" = none
  b_zip : mg "zip" = none
  b_bool : mg "bool" = none
  b_len : mg "len" = none
  b_str : mg "str" = none
  b_abs : mg "abs" = none
  b_min : mg "min" = none
  b_super : mg "super" = none
  c_MOST_DAYS : ∃ t, mg "MOST_DAYS" = some (.int 12 t)
  c_MOST_FIRES : ∃ t, mg "MOST_FIRES" = some (.int 9 t)
  c_MOST_THINGS : ∃ t, mg "MOST_THINGS" = some (.int 6 t)
  c_MOST_NEED : ∃ t, mg "MOST_NEED" = some (.int 120 t)
  c_MOST_TEXT : ∃ t, mg "MOST_TEXT" = some (.int 2000 t)
  c_DIGITS : ∃ t, mg "DIGITS" = some (.str "0123456789" t)
  er : ErT P K mg "BadArgument" C "name"
  bt : ErT P K mg "BadText" (He.ga K "BadText") "line"
  xt : XcT K (He.ga K "BadText") "line"
  f_demand : FT K mg "demand" s_demand ["is_good", "name"]
  f_is_in : FT K mg "is_in" s_is_in ["value", "low", "high"]
  f_is_tuple : FT K mg "is_tuple" s_is_tuple ["value", "least", "most"]
  f_are_in : FT K mg "are_in" s_are_in ["value", "least", "most", "low", "high"]
  f_is_thing : FT K mg "is_thing" s_is_thing ["value", "days"]
  f_demand_house : FT K mg "demand_house" s_demand_house ["most", "things"]
  f_write_house : FT K mg "write_house" s_write_house ["most", "things"] kb_write_house
  f_number_of : FT K mg "number_of" s_number_of ["word"]
  f_numbers_of : FT K mg "numbers_of" s_numbers_of ["line", "first"]
  f_read_house : FT K mg "read_house" s_read_house ["text"] kb_read_house
  f_draw : FT K mg "draw" s_draw ["plan", "things"] kb_draw
  f__law_dice : FT K mg "_law_dice" s__law_dice ["script", "spot"]
  f__law_roll : FT K mg "_law_roll" s__law_roll ["dice", "total"]
  f__law_pick : FT K mg "_law_pick" s__law_pick ["dice", "things"]
  f__law_refused : FT K mg "_law_refused" s__law_refused ["call"]
  f__law_house : FT K mg "_law_house" s__law_house ["dice"]
  f__law_text : FT K mg "_law_text" s__law_text ["most", "things"]
  f__law_numbers : FT K mg "_law_numbers" s__law_numbers ["words", "most"]
  f__law_read : FT K mg "_law_read" s__law_read ["text"]
  f__law_told : FT K mg "_law_told" s__law_told ["text"]
  f__law_changed : FT K mg "_law_changed" s__law_changed ["dice", "text"]
  l_law : TabL K mg base TT "law" "law.<locals>.<lambda>"
local macro_rules | `(tactic| walk_at "ovAdd") => `(tactic| first | exact ov_add | exact ov_catT (by walk_at "side"))
local macro_rules | `(tactic| walk_at "ovSub") => `(tactic| exact ov_sub)
local macro_rules | `(tactic| walk_at "ovMult") => `(tactic| first | exact ov_mul (by walk_at "side") | exact ov_mulW (by walk_at "side"))
local macro_rules | `(tactic| walk_at "ovMod") => `(tactic| exact ov_mod (by walk_at "side"))
local macro_rules | `(tactic| walk_at "ovFloorDiv") => `(tactic| first | exact ov_fdiv ⟨by omega, by omega⟩ | exact ov_fdivW (by walk_at "side"))
local macro_rules | `(tactic| walk_at "ovPow") => `(tactic| exact ov_pow ⟨by decide, by decide, by decide⟩)
local macro_rules | `(tactic| walk_at "side") => `(tactic| first | omega | assumption | (exact .inl ⟨by omega, by omega⟩) | (exact .inr ⟨by omega, by omega⟩) | decide)
local macro_rules | `(tactic| walk_at "ovLt") => `(tactic| exact ov_lt)
local macro_rules | `(tactic| walk_at "ovLtE") => `(tactic| exact ov_le)
local macro_rules | `(tactic| walk_at "ovGt") => `(tactic| exact ov_gt)
local macro_rules | `(tactic| walk_at "ovGtE") => `(tactic| exact ov_ge)
local macro_rules | `(tactic| walk_at "ovEq") => `(tactic| first | exact ov_eqI | exact ov_eqB)
local macro_rules | `(tactic| walk_at "ovNotEq") => `(tactic| first | exact ov_neI | exact ov_neB)
local macro_rules | `(tactic| walk_at "ovIs") => `(tactic| first | exact ov_isN | exact ov_isB)
local macro_rules | `(tactic| walk_at "ovIsNot") => `(tactic| first | exact ov_notN | exact ov_notB)
local macro_rules | `(tactic| walk_at "vw") => `(tactic| first | exact Vw.dl | exact Vw.dt | exact Vw.li | exact Vw.sl rfl)
local macro_rules | `(tactic| walk_at "dv") => `(tactic| first | exact Dv.da | exact Dv.li | exact Dv.sl rfl)
local macro_rules | `(tactic| walk_at "at") => `(tactic| first | rfl | assumption)
local macro_rules | `(tactic| walk_at "isi") => `(tactic| first | exact kb_int _ | exact kb_bool _ | exact kb_tuple _ | exact kb_str _)
local macro_rules | `(tactic| walk_at "room") => `(tactic| exact Room.mono (by assumption) (by decide))
local macro_rules | `(tactic| walk_at "cvlen") => `(tactic| exact cv_len (by walk_at "vw"))
local macro_rules | `(tactic| walk_at "cvabs") => `(tactic| exact cv_abs)
local macro_rules | `(tactic| walk_at "cvint") => `(tactic| exact cv_int)
local macro_rules | `(tactic| walk_at "cvmax") => `(tactic| exact cv_max2 rfl)
local macro_rules | `(tactic| walk_at "cvmin") => `(tactic| exact cv_min2 rfl)
local macro_rules | `(tactic| walk_at "cvtuple") => `(tactic| exact cv_tuple (by walk_at "vw"))
local macro_rules | `(tactic| walk_at "cvlist") => `(tactic| exact cv_list (by walk_at "vw"))
local macro_rules | `(tactic| walk_at "wk") => `(tactic| repeat (first | exact Wk.nil | refine Wk.same ?_ | refine Wk.drop ?_))
local macro_rules | `(tactic| walk_at "rng") => `(tactic| (refine ⟨?_, ?_⟩ <;> omega))

section
variable {P : Program} {w : World} {K : PySem.W.Frag} {mg : Str → Option Value} {base : Heap} {TT : List (Addr × Str)} {C : Addr}
def S_demand (xs : List PyData) (oc : Oc) : Prop := ∃ b nm, xs = [.bool b, .str nm] ∧ oc = if b then .ret (.da .none) else .err nm
theorem df_demand (T : Txt P w K mg base TT C) : Df P w K mg base "demand" 3 ["is_good", "name"] (spP K TT C "name" S_demand) := by
  refine df_of T.f_demand fun f fd F => ok_pure F sc_demand (fun xs oc h => by obtain ⟨_, _, rfl, _⟩ := h; rfl) fun cdv A outer s H E hr xs oc hS => ?_
  obtain ⟨b, nm, rfl, rfl⟩ := hS
  cases b with
  | true => exact ⟨_, rss_one (rs_if (rt_not (rt_val (by first | exact rv_name 0 | exact rv_slot 0))) (fun h => by cases h) fun _ => rss_nil), .nx⟩
  | false => exact ⟨_, rss_one (rs_if (rt_not (rt_val (by first | exact rv_name 0 | exact rv_slot 0))) (fun _ => rss_one (rs_raise (k := 0) (er := ⟨C, "name", E⟩) T.er hr takes_D (ra_cons (by first | exact rv_name 1 | exact rv_slot 1) ra_nil))) fun h => by cases h), .er⟩
def isIn (z : PyData) (lo hi : Int) : Bool := match z with
  | .int n => decide (lo ≤ n) && decide (n ≤ hi)
  | _ => false
def S_is_in (xs : List PyData) (oc : Oc) : Prop := ∃ z lo hi, xs = [z, .int lo, .int hi] ∧ oc = .ret (.da (.bool (isIn z lo hi)))
theorem df_is_in (T : Txt P w K mg base TT C) : Df P w K mg base "is_in" 1 ["value", "low", "high"] (spP K TT C "name" S_is_in) := by
  refine df_of T.f_is_in fun f fd F => ok_pure F sc_is_in (fun xs oc h => by obtain ⟨_, _, _, rfl, _⟩ := h; rfl) fun cdv A outer s H E hr xs oc hS => ?_
  obtain ⟨z, lo, hi, rfl, rfl⟩ := hS
  cases z with
  | int n => exact ⟨_, rss_one (rs_ret (rv_and (rv_isi (T0 := "int") (by first | exact rv_name 0 | exact rv_slot 0) (by walk_at "dv") (kb_int _) T.b_isinstance T.b_int) fun _ => (rv_and (rv_not (rv_isi (T0 := "bool") (by first | exact rv_name 0 | exact rv_slot 0) (by walk_at "dv") (kb_bool _) T.b_isinstance T.b_bool)) fun _ => (rv_and1 (rv_chain (by first | exact rv_name 1 | exact rv_slot 1) (by first | exact rv_name 0 | exact rv_slot 0) (by walk_at "ovLtE") (fun _ => (by first | exact rv_name 2 | exact rv_slot 2)) (fun _ => by walk_at "ovLtE")))))), .da⟩
  | bool b => exact ⟨_, rss_one (rs_ret (rv_and (rv_isi (T0 := "int") (by first | exact rv_name 0 | exact rv_slot 0) (by walk_at "dv") (kb_int _) T.b_isinstance T.b_int) fun _ => rv_and (k2 := false) (rv_not (rv_isi (T0 := "bool") (by first | exact rv_name 0 | exact rv_slot 0) (by walk_at "dv") (kb_bool _) T.b_isinstance T.b_bool)) fun h => by cases h)), .da⟩
  | _ => exact ⟨_, rss_one (rs_ret (rv_and (k2 := false) (rv_isi (T0 := "int") (by first | exact rv_name 0 | exact rv_slot 0) (by walk_at "dv") (kb_int _) T.b_isinstance T.b_int) fun h => by cases h)), .da⟩
def isTup (z : PyData) (lo hi : Int) : Bool := match z with
  | .tuple xs => decide (lo ≤ (xs.length : Int)) && decide ((xs.length : Int) ≤ hi)
  | _ => false
def S_is_tuple (xs : List PyData) (oc : Oc) : Prop := ∃ z lo hi, xs = [z, .int lo, .int hi] ∧ oc = .ret (.da (.bool (isTup z lo hi)))
theorem df_is_tuple (T : Txt P w K mg base TT C) : Df P w K mg base "is_tuple" 1 ["value", "least", "most"] (spP K TT C "name" S_is_tuple) := by
  refine df_of T.f_is_tuple fun f fd F => ok_pure F sc_is_tuple (fun xs oc h => by obtain ⟨_, _, _, rfl, _⟩ := h; rfl) fun cdv A outer s H E hr xs oc hS => ?_
  obtain ⟨z, lo, hi, rfl, rfl⟩ := hS
  cases z with
  | tuple n => exact ⟨_, rss_one (rs_ret (rv_and (rv_isi (T0 := "tuple") (by first | exact rv_name 0 | exact rv_slot 0) (by walk_at "dv") (kb_tuple _) T.b_isinstance T.b_tuple) fun _ => (rv_and1 (rv_chain (by first | exact rv_name 1 | exact rv_slot 1) (rv_callB (ra_cons (by first | exact rv_name 0 | exact rv_slot 0) ra_nil) (by walk_at "cvlen") T.b_len) (by walk_at "ovLtE") (fun _ => (by first | exact rv_name 2 | exact rv_slot 2)) (fun _ => by walk_at "ovLtE"))))), .da⟩
  | _ => exact ⟨_, rss_one (rs_ret (rv_and (k2 := false) (rv_isi (T0 := "tuple") (by first | exact rv_name 0 | exact rv_slot 0) (by walk_at "dv") (kb_tuple _) T.b_isinstance T.b_tuple) fun h => by cases h)), .da⟩
def areIn (z : PyData) (lo hi : Int) (a b : Int) : Bool := match z with
  | .tuple xs => isTup z lo hi && xs.all fun x => isIn x a b
  | _ => false
def S_are_in (xs : List PyData) (oc : Oc) : Prop := ∃ z lo hi a b, hi ≤ 10000 ∧ xs = [z, .int lo, .int hi, .int a, .int b] ∧ oc = .ret (.da (.bool (areIn z lo hi a b)))
local macro_rules | `(tactic| walk_at "sp") => `(tactic| first | exact ⟨_, _, _, rfl, rfl⟩ | exact ⟨_, _, rfl, rfl⟩)
theorem df_are_in (T : Txt P w K mg base TT C) : Df P w K mg base "are_in" 2 ["value", "least", "most", "low", "high"] (spP K TT C "name" S_are_in) := by
  refine df_of T.f_are_in fun f fd F => ok_pure F sc_are_in (fun xs oc h => by obtain ⟨_, _, _, _, _, _, rfl, _⟩ := h; rfl) fun cdv A outer s H E hr xs oc hS => ?_
  obtain ⟨z, lo, hi, a, b, hh, rfl, rfl⟩ := hS
  cases z with
  | tuple xs =>
    exact ⟨_, rss_one (rs_ret (rv_and (rv_call (xs := [_, _, _]) (df_is_tuple T) (by walk_at "room") (ra_cons (by first | exact rv_name 0 | exact rv_slot 0) (ra_cons (by first | exact rv_name 1 | exact rv_slot 1) (ra_cons (by first | exact rv_name 2 | exact rv_slot 2) ra_nil))) (by walk_at "sp")) fun h => rv_and1 (rv_callB (ra_cons (rv_map (own := [("one", 5)]) (fun x => .bool (isIn x a b)) rfl sc_are_in.nd (by first | exact iv_tup (by first | exact rv_name 0 | exact rv_slot 0) | exact iv_list (by first | exact rv_name 0 | exact rv_slot 0) | exact iv_list (rv_settle (by first | exact rv_name 0 | exact rv_slot 0))) (blkOk_by (N := N_are_in) (sc := defScope s_are_in) (by decide +kernel)) rfl (by
      have h' : (decide (lo ≤ (xs.length : Int)) && decide ((xs.length : Int) ≤ hi)) = true := h
      simp at h'
      omega) (fun i x hx => ⟨_, _, fun j hj => hj, fun s H C cl fp => (gv_name 5 sc_are_in.nd), by walk_at "wk", _, fun s H C cl fp => (rv_call (xs := [_, _, _]) (df_is_in T) (by walk_at "room") (ra_cons (by first | exact rv_name 5 | exact rv_slot 5) (ra_cons (by first | exact rv_name 3 | exact rv_slot 3) (ra_cons (by first | exact rv_name 4 | exact rv_slot 4) ra_nil))) (by walk_at "sp")), by walk_at "wk"⟩)) ra_nil) (cv_allM rfl) T.b_all))), .da⟩
  | _ => exact ⟨_, rss_one (rs_ret (rv_and (k2 := false) (rv_call (xs := [_, _, _]) (df_is_tuple T) (by walk_at "room") (ra_cons (by first | exact rv_name 0 | exact rv_slot 0) (ra_cons (by first | exact rv_name 1 | exact rv_slot 1) (ra_cons (by first | exact rv_name 2 | exact rv_slot 2) ra_nil))) (by walk_at "sp")) fun h => by cases h)), .da⟩

def mixM : Int := 2147480009
def mixF (m c : Int) : Int := (m * 69621 + c % 2147480009) % 2147480009
def ownD (ns : List Int) (spot : Nat) : Int := ns.getD spot (811 * (spot : Int) + 37)
def cellsD (ns : List Int) (spot : Nat) : List Int := ns.take 6 ++ [ownD ns spot]
def mixD (ns : List Int) (spot : Nat) (i : Nat) : Int := ((cellsD ns spot).take i).foldl mixF (700001 + 6947 * (spot : Int))
structure Dice where
  a : Int
  b : Int
  c : Int
def Dice.l (d : Dice) : List PyData := [.int d.a, .int d.b, .int d.c]
structure Dok (k : Nat) (d : Dice) : Prop where
  a0 : 0 ≤ d.a
  b0 : 0 ≤ d.b
  b1 : d.b < 2147480009
  c0 : 0 ≤ d.c
  c1 : d.c ≤ k
def dice0 (ns : List Int) (spot : Nat) : Dice := ⟨if ownD ns spot < 0 ∨ 10 ^ 16 ≤ ownD ns spot then (if ownD ns spot < 0 then -ownD ns spot else ownD ns spot) else 0, mixD ns spot (cellsD ns spot).length, 0⟩
theorem mixF_ok (m c : Int) : 0 ≤ mixF m c ∧ mixF m c < 2147480009 := by
  unfold mixF
  omega
theorem foldl_mix (l : List Int) : ∀ m : Int, 0 ≤ m ∧ m < 2147480009 → 0 ≤ l.foldl mixF m ∧ l.foldl mixF m < 2147480009 := by
  induction l with
  | nil => exact fun m h => h
  | cons x r ih => exact fun m _ => ih _ (mixF_ok m x)
theorem mixD_ok {ns : List Int} {spot : Nat} (h : spot ≤ 8) (i : Nat) : 0 ≤ mixD ns spot i ∧ mixD ns spot i < 2147480009 := foldl_mix _ _ (by omega)
theorem dice0_ok {ns : List Int} {spot : Nat} (h : spot ≤ 8) : Dok 0 (dice0 ns spot) := by
  have h1 := mixD_ok (ns := ns) h (cellsD ns spot).length
  refine ⟨?_, h1.1, h1.2, Int.le_refl _, Int.le_refl _⟩
  show 0 ≤ (if ownD ns spot < 0 ∨ 10 ^ 16 ≤ ownD ns spot then (if ownD ns spot < 0 then -ownD ns spot else ownD ns spot) else 0)
  split
  · split <;> omega
  · exact Int.le_refl _
theorem cutA_take {α : Type} (xs : List α) (k : Nat) : cutA xs none (some (k : Int)) = xs.take k := by
  unfold cutA
  rw [HT.sIx_none, HT.sIx_nat, List.drop_zero, Nat.sub_zero]
  by_cases h : k ≤ xs.length
  · rw [Nat.min_eq_left h]
  · rw [Nat.min_eq_right (by omega), List.take_length, List.take_of_length_le (by omega)]
def S_dice (xs : List PyData) (oc : Oc) : Prop := ∃ (ns : List Int) (spot : Nat), ns.length ≤ 63 ∧ spot ≤ 8 ∧ xs = [.list (ns.map .int), .int (spot : Int)] ∧ oc = .ret (.li (dice0 ns spot).l)
theorem atI_map {ns : List Int} {i : Nat} (h : i < ns.length) : atI (ns.map PyData.int) (i : Int) = some (.int ns[i]) := by
  refine atI_nat ?_
  rw [List.getElem?_map, List.getElem?_eq_getElem h]
  rfl
theorem df__law_dice (T : Txt P w K mg base TT C) : Df P w K mg base "_law_dice" 1 ["script", "spot"] (spP K TT C "name" S_dice) := by
  refine df_of T.f__law_dice fun f fd F => ok_pure F sc__law_dice (fun xs oc h => by obtain ⟨_, _, _, _, rfl, _⟩ := h; rfl) fun cdv A outer s H E hr xs oc hS => ?_
  obtain ⟨ns, spot, hl, hs, rfl, rfl⟩ := hS
  have hiter : cutA (ns.map PyData.int) none (some 6) ++ [PyData.int (ownD ns spot)] = (cellsD ns spot).map .int := by
    rw [show (6 : Int) = ((6 : Nat) : Int) from rfl, cutA_take, ← List.map_take]
    unfold cellsD
    rw [List.map_append]
    rfl
  have hcl : (cellsD ns spot).length ≤ 7 := by
    unfold cellsD
    rw [List.length_append, List.length_take]
    show min 6 ns.length + 1 ≤ 7
    omega
  refine rf_cons (rs_set 2 (z := .int (ownD ns spot)) (ρ1 := startR N__law_dice [.list (ns.map .int), .int (spot : Int)]) (rv_if (k1 := decide ((spot : Int) < ((ns.map PyData.int).length : Int))) (rt_cmp (by first | exact rv_name 1 | exact rv_slot 1) (rv_callB (ra_cons (by first | exact rv_name 0 | exact rv_slot 0) ra_nil) (by walk_at "cvlen") T.b_len) (by walk_at "ovLt")) (fun h => ?_) (fun h => ?_)) sc__law_dice.nd) ?_
  · have h' : spot < ns.length := by
      have := of_decide_eq_true h
      rw [List.length_map] at this
      omega
    have e : ownD ns spot = ns[spot] := by
      unfold ownD
      rw [List.getD_eq_getElem?_getD, List.getElem?_eq_getElem h']
      rfl
    rw [e]
    exact (rv_at (by first | exact rv_name 0 | exact rv_slot 0) (by first | exact rv_name 1 | exact rv_slot 1) (by walk_at "vw") (atI_map h'))
  · have h' : ns.length ≤ spot := by
      have := of_decide_eq_false h
      rw [List.length_map] at this
      omega
    have e : ownD ns spot = 811 * (spot : Int) + 37 := by
      unfold ownD
      rw [List.getD_eq_getElem?_getD, List.getElem?_eq_none h']
      rfl
    rw [e]
    exact (rv_bin (rv_bin rv_int (by first | exact rv_name 1 | exact rv_slot 1) (by walk_at "ovMult")) rv_int (by walk_at "ovAdd"))
  refine rf_cons (rs_set 3 (rv_bin rv_int (rv_bin rv_int (by first | exact rv_name 1 | exact rv_slot 1) (by walk_at "ovMult")) (by walk_at "ovAdd")) sc__law_dice.nd) ?_
  refine rf_cons (rs_for (xs := (cellsD ns spot).map .int) (fun i => [dd (.list (ns.map .int)), dd (.int (spot : Int)), dd (.int (ownD ns spot)), dd (.int (mixD ns spot i)), none]) (iv_list (rv_settle (xs := (cellsD ns spot).map .int) ?_)) (passes_of rfl) rfl (fun i x hx => ?_)) ?_
  · rw [← hiter]
    exact rv_bin (by first | exact rv_cutT (by first | exact rv_name 0 | exact rv_slot 0) ro_none (ro_some rv_int) | exact rv_cutL (by first | exact rv_name 0 | exact rv_slot 0) ro_none (ro_some rv_int) (by walk_at "vw")) (rv_lst (xs := [_]) (ra_cons (by first | exact rv_name 2 | exact rv_slot 2) ra_nil)) (ov_cat .li .li (by
      rw [show (6 : Int) = ((6 : Nat) : Int) from rfl, cutA_take, List.length_take, List.length_map]
      show min 6 ns.length + 1 ≤ 100000
      omega) (fun _ h => nomatch h) (fun _ h => nomatch h))
  · obtain ⟨c, hc, rfl⟩ : ∃ c, (cellsD ns spot)[i]? = some c ∧ x = .int c := by
      rw [List.getElem?_map] at hx
      cases e : (cellsD ns spot)[i]? with
      | none =>
        rw [e] at hx
        cases hx
      | some c =>
        rw [e] at hx
        exact ⟨c, rfl, (Option.some.inj hx).symm⟩
    have hm := mixD_ok (ns := ns) hs i
    have e : mixD ns spot (i + 1) = (mixD ns spot i * 69621 + c % 2147480009) % 2147480009 := by
      unfold mixD
      rw [List.take_add_one, hc, List.foldl_append]
      rfl
    refine ⟨_, _, (gv_name 4 sc__law_dice.nd), .inl (rss_weak (ρ1 := [dd (.list (ns.map .int)), dd (.int (spot : Int)), dd (.int (ownD ns spot)), dd (.int (mixD ns spot (i + 1))), dd (.int c)]) (rss_one ?_) (by walk_at "wk"))⟩
    rw [e]
    exact rs_set 3 (rv_bin (rv_callTy (ra_cons (rv_bin (rv_bin (by first | exact rv_name 3 | exact rv_slot 3) rv_int (by walk_at "ovMult")) (rv_bin (rv_callTy (ra_cons (by first | exact rv_name 4 | exact rv_slot 4) ra_nil) (by walk_at "cvint") T.b_int) rv_int (by walk_at "ovMod")) (by walk_at "ovAdd")) ra_nil) (by walk_at "cvint") T.b_int) rv_int (by walk_at "ovMod")) sc__law_dice.nd
  · rw [List.length_map]
    refine' rf_retL ?_
    show RV _ _ _ _ (.li [.int (dice0 ns spot).a, .int (mixD ns spot (cellsD ns spot).length), .int 0]) _
    refine rv_lst (xs := [.int (dice0 ns spot).a, .int (mixD ns spot (cellsD ns spot).length), .int 0]) (ra_cons (r := .da (.int (dice0 ns spot).a)) (ρ1 := [dd (.list (ns.map .int)), dd (.int (spot : Int)), dd (.int (ownD ns spot)), dd (.int (mixD ns spot (cellsD ns spot).length)), none]) ?_ (ra_cons (by first | exact rv_name 3 | exact rv_slot 3) (ra_cons rv_int ra_nil)))
    refine rv_if (k1 := decide (ownD ns spot < 0) || decide ((10 : Int) ^ 16 ≤ ownD ns spot)) (rt_w (rw_or (rt_cmp (by first | exact rv_name 2 | exact rv_slot 2) rv_int (by walk_at "ovLt")) fun _ => (rw_or1 (rt_cmp (by first | exact rv_name 2 | exact rv_slot 2) (rv_bin rv_int rv_int (by walk_at "ovPow")) (by walk_at "ovGtE"))))) (fun h => ?_) (fun h => ?_)
    · have h' : ownD ns spot < 0 ∨ 10 ^ 16 ≤ ownD ns spot := by simpa using h
      have e : (dice0 ns spot).a = if ownD ns spot < 0 then -ownD ns spot else ownD ns spot := if_pos h'
      rw [e]
      exact (rv_callB (ra_cons (by first | exact rv_name 2 | exact rv_slot 2) ra_nil) (by walk_at "cvabs") T.b_abs)
    · have h' : ¬ (ownD ns spot < 0 ∨ 10 ^ 16 ≤ ownD ns spot) := by
        intro z
        have : (decide (ownD ns spot < 0) || decide ((10 : Int) ^ 16 ≤ ownD ns spot)) = true := by simpa using z
        rw [this] at h
        cases h
      have e : (dice0 ns spot).a = 0 := if_neg h'
      rw [e]
      exact rv_int
def rollV (d : Dice) (n : Int) : Int := if 0 < d.a then d.a % n else (d.b * 48271 + (d.c + 1) * (d.c + 1) * 2003 + 91) % 2147480009 / 197 % n
def rollS (d : Dice) (n : Int) : Dice := if 0 < d.a then ⟨d.a / n, d.b, d.c⟩ else ⟨d.a, (d.b * 48271 + (d.c + 1) * (d.c + 1) * 2003 + 91) % 2147480009, d.c + 1⟩
theorem roll_ok {k : Nat} {d : Dice} {n : Int} (h : Dok k d) (hn : 0 < n) : Dok (k + 1) (rollS d n) := by
  unfold rollS
  split
  · exact ⟨Int.ediv_nonneg h.a0 (by omega), h.b0, h.b1, h.c0, by have := h.c1; show d.c ≤ ((k + 1 : Nat) : Int); omega⟩
  · refine ⟨h.a0, ?_, ?_, ?_, ?_⟩
    · show 0 ≤ _ % _
      omega
    · show _ % _ < _
      omega
    · show 0 ≤ d.c + 1
      have := h.c0
      omega
    · show d.c + 1 ≤ ((k + 1 : Nat) : Int)
      have := h.c1
      omega
theorem roll_in {d : Dice} {n : Int} (hn : 0 < n) : 0 ≤ rollV d n ∧ rollV d n < n := by
  unfold rollV
  split <;> exact ⟨Int.emod_nonneg _ (by omega), Int.emod_lt_of_pos _ hn⟩
def S_roll (zs xs : List PyData) (oc : Oc) (zs' : List PyData) : Prop := ∃ (k : Nat) (d : Dice) (n : Int), k ≤ 1000000 ∧ Dok k d ∧ 0 < n ∧ n < 1073741824 ∧ zs = d.l ∧ xs = [.int n] ∧ oc = .ret (.da (.int (rollV d n))) ∧ zs' = (rollS d n).l
theorem df__law_roll (T : Txt P w K mg base TT C) : Df P w K mg base "_law_roll" 1 ["dice", "total"] (spO K TT C "name" S_roll) := by
  refine df_of T.f__law_roll fun f fd F => ok_own (N := ["total", "found"]) (ps := ["total"]) F sc__law_roll (fun zs xs oc zs' h => by obtain ⟨_, _, _, _, _, _, _, _, rfl, _⟩ := h; rfl) fun cdv A outer s H E l hr zs xs oc zs' hS => ?_
  obtain ⟨k, d, n, hk, ok, hn, hn2, rfl, rfl, rfl, rfl⟩ := hS
  have b0 := ok.b0
  have b1 := ok.b1
  have c0 := ok.c0
  have c1 := ok.c1
  by_cases ha : 0 < d.a
  · have e1 : rollV d n = d.a % n := if_pos ha
    have e2 : rollS d n = ⟨d.a / n, d.b, d.c⟩ := if_pos ha
    rw [e1, e2]
    have ht : decide (0 < d.a) = true := decide_eq_true ha
    refine ⟨.da (.int (d.a % n)), [oo [.int (d.a / n), .int d.b, .int d.c], dd (.int n), dd (.int (d.a % n))], ?_, rfl, rfl, fun _ h => nomatch h⟩
    refine rss_stop (rs_if (k1 := decide (0 < d.a)) (ρ1 := [oo d.l, dd (.int n), none]) (rt_cmp (rv_at (by first | exact rv_name 0 | exact rv_slot 0) rv_int (by walk_at "vw") (by walk_at "at")) rv_int (by walk_at "ovGt")) (fun _ => ?_) (fun h => by rw [ht] at h; cases h))
    refine rss_cons (rs_set 2 (rv_bin (rv_callTy (ra_cons (rv_at (by first | exact rv_name 0 | exact rv_slot 0) rv_int (by walk_at "vw") (by walk_at "at")) ra_nil) (by walk_at "cvint") T.b_int) (by first | exact rv_name 1 | exact rv_slot 1) (by walk_at "ovMod")) sc__law_roll.nd) ?_
    refine rss_cons (rs_item (rv_bin (rv_at (by first | exact rv_name 0 | exact rv_slot 0) rv_int (by walk_at "vw") (by walk_at "at")) (by first | exact rv_name 1 | exact rv_slot 1) (by walk_at "ovFloorDiv")) (rv_slot 0) rv_int rfl rfl) ?_
    exact rss_one (rs_ret (by first | exact rv_name 2 | exact rv_slot 2))
  · have e1 : rollV d n = (d.b * 48271 + (d.c + 1) * (d.c + 1) * 2003 + 91) % 2147480009 / 197 % n := if_neg ha
    have e2 : rollS d n = ⟨d.a, (d.b * 48271 + (d.c + 1) * (d.c + 1) * 2003 + 91) % 2147480009, d.c + 1⟩ := if_neg ha
    rw [e1, e2]
    have ht : decide (0 < d.a) = false := decide_eq_false ha
    refine ⟨.da (.int _), [oo [.int d.a, .int ((d.b * 48271 + (d.c + 1) * (d.c + 1) * 2003 + 91) % 2147480009), .int (d.c + 1)], dd (.int n), none], ?_, rfl, rfl, fun _ h => nomatch h⟩
    refine rss_cons (rs_if (k1 := decide (0 < d.a)) (ρ1 := [oo d.l, dd (.int n), none]) (rt_cmp (rv_at (by first | exact rv_name 0 | exact rv_slot 0) rv_int (by walk_at "vw") (by walk_at "at")) rv_int (by walk_at "ovGt")) (fun h => by rw [ht] at h; cases h) (fun _ => rss_nil)) ?_
    refine rss_cons (rs_item (rv_bin (rv_at (by first | exact rv_name 0 | exact rv_slot 0) rv_int (by walk_at "vw") (by walk_at "at")) rv_int (by walk_at "ovAdd")) (rv_slot 0) rv_int rfl rfl) ?_
    refine rss_cons (rs_item (rv_bin (rv_callTy (ra_cons (rv_bin (rv_bin (rv_bin (rv_at (by first | exact rv_name 0 | exact rv_slot 0) rv_int (by walk_at "vw") (by walk_at "at")) rv_int (by walk_at "ovMult")) (rv_bin (rv_bin (rv_at (by first | exact rv_name 0 | exact rv_slot 0) rv_int (by walk_at "vw") (by walk_at "at")) (rv_at (by first | exact rv_name 0 | exact rv_slot 0) rv_int (by walk_at "vw") (by walk_at "at")) (by walk_at "ovMult")) rv_int (by walk_at "ovMult")) (by walk_at "ovAdd")) rv_int (by walk_at "ovAdd")) ra_nil) (by walk_at "cvint") T.b_int) rv_int (by walk_at "ovMod")) (rv_slot 0) rv_int rfl rfl) ?_
    exact rss_one (rs_ret (rv_bin (rv_callTy (ra_cons (rv_bin (rv_at (by first | exact rv_name 0 | exact rv_slot 0) rv_int (by walk_at "vw") (by walk_at "at")) rv_int (by walk_at "ovFloorDiv")) ra_nil) (by walk_at "cvint") T.b_int) (by first | exact rv_name 1 | exact rv_slot 1) (by walk_at "ovMod")))
def S_pick (zs xs : List PyData) (oc : Oc) (zs' : List PyData) : Prop := ∃ (k : Nat) (d : Dice) (ys : List PyData) (x : PyData), k ≤ 1000000 ∧ Dok k d ∧ 0 < ys.length ∧ ys.length < 1000000 ∧ zs = d.l ∧ xs = [.list ys] ∧ ys[(rollV d ys.length).toNat]? = some x ∧ oc = .ret (.da x) ∧ zs' = (rollS d ys.length).l
theorem df__law_pick (T : Txt P w K mg base TT C) : Df P w K mg base "_law_pick" 2 ["dice", "things"] (spO K TT C "name" S_pick) := by
  refine df_of T.f__law_pick fun f fd F => ok_own (N := ["things"]) (ps := ["things"]) F sc__law_pick (fun zs xs oc zs' h => by obtain ⟨_, _, _, _, _, _, _, _, _, rfl, _⟩ := h; rfl) fun cdv A outer s H E l hr zs xs oc zs' hS => ?_
  obtain ⟨k, d, ys, x, hk, ok, hn, hn2, rfl, rfl, hx, rfl, rfl⟩ := hS
  have hin := roll_in (d := d) (n := (ys.length : Int)) (by omega)
  refine ⟨.da x, [oo (rollS d ys.length).l, dd (.list ys)], ?_, rfl, rfl, fun _ h => nomatch h⟩
  exact rss_one (rs_ret (rv_at (by first | exact rv_name 1 | exact rv_slot 1) (rv_callO (xs := [_]) 0 (df__law_roll T) (by walk_at "room") (ra_cons (by first | exact rv_name 0 | exact rv_slot 0) (ra_cons (rv_callB (ra_cons (by first | exact rv_name 1 | exact rv_slot 1) ra_nil) (by walk_at "cvlen") T.b_len) ra_nil)) (by rfl) ⟨k, d, (ys.length : Int), hk, ok, by omega, by omega, rfl, rfl, rfl, rfl⟩) .dl (by
    have e : (rollV d ys.length) = (((rollV d ys.length).toNat : Nat) : Int) := by omega
    rw [e]
    exact atI_nat hx)))

/-- demand(.., name) as a row of its own -/
theorem rf_dem {X : Cx} {p : Pm} {E : XK} {ρ : Rho} {e1 e2 : Expr} {pp p1 p2 : Pos} {sts : List Stmt} {oc : Oc} {b : Bool} {nm : Str} (T : Txt X.prog X.w X.K X.mg X.base p.T C) (hr : Room 3 X.A) (tk : Takes X (fun cls d _ H => E cls d H)) (ha : RA X p [e1, e2] ρ [.da (.bool b), .da (.str nm)] ρ)
    (hb : b = true → RSf X p ⟨C, "name", E⟩ sts ρ oc) (hf : b = false → oc = .err nm) (hg : Gl X "demand" := by rfl) (he : starEach [e1, e2] X.env = (false, eval e1 X.env) :: starEach [e2] X.env := by rfl) (hpl : (backTo p1 (starEach [e2] X.env)).any (·.1) = false := by rfl)
    (hs : swapsWith (.Call (.Name "demand" pp) [e1, e2] [] p1) none p2.line X.env = pure false := by rfl) : RSf X p ⟨C, "name", E⟩ (.Expr (.Call (.Name "demand" pp) [e1, e2] [] p1) p2 :: sts) ρ oc := by
  cases b with
  | true => exact rf_cons (rs_expr (rv_call (xs := [_, _]) (df_demand T) hr ha ⟨_, _, rfl, rfl⟩ (fun _ h => nomatch h) hg (by decide) he hpl) hs) (hb rfl)
  | false =>
    rw [hf rfl]
    exact rf_er (rs_exprX (rx_call (xs := [_, _]) (er := ⟨C, "name", E⟩) (df_demand T) hr tk ha ⟨_, _, rfl, rfl⟩ hg (by decide) he hpl) hs)
theorem iv_eq {X : Cx} {p : Pm} {tg iter : Expr} {ρ ρ1 ρ2 : Rho} {xs : List PyData} (h : IV X p tg iter ρ xs ρ1) (e : ρ1 = ρ2) : IV X p tg iter ρ xs ρ2 := e ▸ h
theorem isIn_of {z : PyData} {lo hi : Int} (h : isIn z lo hi = true) : ∃ n, z = .int n ∧ lo ≤ n ∧ n ≤ hi := by
  cases z with
  | int n =>
    have h' : (decide (lo ≤ n) && decide (n ≤ hi)) = true := h
    simp at h'
    exact ⟨n, rfl, h'.1, h'.2⟩
  | _ => cases h
theorem isIn_int {n lo hi : Int} (h1 : lo ≤ n) (h2 : n ≤ hi) : isIn (.int n) lo hi = true := by
  show (decide (lo ≤ n) && decide (n ≤ hi)) = true
  simp [h1, h2]
theorem rngD_get' {n i : Nat} {x : PyData} (h : (rngD 0 n)[i]? = some x) : x = .int (i : Int) ∧ i < n := by
  have hl : i < (rngD 0 n).length := (List.getElem?_eq_some_iff.mp h).1
  rw [rngD_len] at hl
  have := rngD_get (lo := 0) hl
  rw [h] at this
  exact ⟨by rw [Option.some.inj this, Int.zero_add], hl⟩
theorem iv_eq2 {X : Cx} {p : Pm} {tg iter : Expr} {ρ ρ1 ρ2 : Rho} {xs ys : List PyData} (h : IV X p tg iter ρ xs ρ1) (ex : xs = ys) (e : ρ1 = ρ2) : IV X p tg iter ρ ys ρ2 := e ▸ ex ▸ h
theorem rf_rt {X : Cx} {p : Pm} {er : Er} {ρ ρ1 : Rho} {st : Stmt} {sts : List Stmt} {x : PyData} (h : RS X p er st ρ (.rt (.da x) ρ1)) : RSf X p er (st :: sts) ρ (.ret (.da x)) := ⟨_, rss_stop h (fun _ z => nomatch z), .da⟩
theorem find_none_lt {n : Nat} {p : Nat → Bool} (h : (List.range n).find? p = none) : ∀ i, i < n → p i = false := fun i hi => by
  have := List.find?_eq_none.mp h i (List.mem_range.mpr hi)
  simpa using this
theorem find_some_lt {n m : Nat} {p : Nat → Bool} (h : (List.range n).find? p = some m) : m < n ∧ p m = true ∧ ∀ i, i < m → p i = false := by
  obtain ⟨h1, as, bs, h2, h3⟩ := List.find?_eq_some_iff_append.mp h
  have hm : m ∈ List.range n := by rw [h2]; simp
  have hl : as.length = m := by
    have e : (List.range n)[as.length]? = some m := by rw [h2, List.getElem?_append_right (Nat.le_refl _), Nat.sub_self]; rfl
    have hlt : as.length < n := by
      have := (List.getElem?_eq_some_iff.mp e).1
      rwa [List.length_range] at this
    rw [List.getElem?_range hlt] at e
    exact Option.some.inj e
  refine ⟨List.mem_range.mp hm, h1, fun i hi => ?_⟩
  have e : as[i]? = some i := by
    have e1 : (List.range n)[i]? = as[i]? := by rw [h2, List.getElem?_append_left (by omega)]
    rw [← e1, List.getElem?_range (by have := List.mem_range.mp hm; omega)]
  have := h3 i (List.mem_of_getElem? e)
  simpa using this
theorem cutA_drop {α : Type} (xs : List α) (k : Nat) : cutA xs (some (k : Int)) none = xs.drop k := by
  unfold cutA
  rw [HT.sIx_none, HT.sIx_nat]
  by_cases h : k ≤ xs.length
  · rw [Nat.min_eq_left h]
    exact List.take_of_length_le (by rw [List.length_drop]; exact Nat.le_refl _)
  · rw [Nat.min_eq_right (by omega), List.drop_eq_nil_of_le (Nat.le_refl _), List.drop_eq_nil_of_le (by omega), List.take_nil]
theorem cut1 (ns : List Int) : cutA (ns.map PyData.int) (some 1) none = (ns.drop 1).map PyData.int := by
  rw [List.map_drop]
  exact cutA_drop _ 1
theorem areIn_of {z : PyData} {lo hi a b : Int} (h : areIn z lo hi a b = true) : ∃ ns : List Int, z = .tuple (ns.map .int) ∧ lo ≤ ns.length ∧ (ns.length : Int) ≤ hi ∧ ∀ n ∈ ns, a ≤ n ∧ n ≤ b := by
  cases z with
  | tuple xs =>
    have h' : (decide (lo ≤ (xs.length : Int)) && decide ((xs.length : Int) ≤ hi) && xs.all fun x => isIn x a b) = true := h
    simp only [Bool.and_eq_true, decide_eq_true_eq] at h'
    obtain ⟨⟨h1, h2⟩, h3⟩ := h'
    have key : ∀ l : List PyData, (l.all fun x => isIn x a b) = true → ∃ ns : List Int, l = ns.map .int ∧ ∀ n ∈ ns, a ≤ n ∧ n ≤ b := by
      intro l
      induction l with
      | nil => exact fun _ => ⟨[], rfl, fun _ h => by cases h⟩
      | cons x r ih =>
        intro hl
        rw [List.all_cons, Bool.and_eq_true] at hl
        obtain ⟨n, rfl, n1, n2⟩ := isIn_of hl.1
        obtain ⟨ns, rfl, hn⟩ := ih hl.2
        refine ⟨n :: ns, rfl, fun m hm => ?_⟩
        rcases List.mem_cons.mp hm with rfl | hm
        · exact ⟨n1, n2⟩
        · exact hn m hm
    obtain ⟨ns, rfl, hn⟩ := key xs h3
    rw [List.length_map] at h1 h2
    exact ⟨ns, rfl, h1, h2, hn⟩
  | _ => cases h
theorem areIn_ok {ns : List Int} {lo hi a b : Int} (h1 : lo ≤ ns.length) (h2 : (ns.length : Int) ≤ hi) (h : ∀ n ∈ ns, a ≤ n ∧ n ≤ b) : areIn (.tuple (ns.map .int)) lo hi a b = true := by
  show (decide (lo ≤ ((ns.map PyData.int).length : Int)) && decide (((ns.map PyData.int).length : Int) ≤ hi) && (ns.map PyData.int).all fun x => isIn x a b) = true
  rw [List.length_map, decide_eq_true h1, decide_eq_true h2, Bool.true_and, Bool.true_and, List.all_eq_true]
  intro x hx
  obtain ⟨n, hn, rfl⟩ := List.mem_map.mp hx
  exact isIn_int (h n hn).1 (h n hn).2
theorem getD_in {ns : List Int} {a b : Int} (h : ∀ n ∈ ns, a ≤ n ∧ n ≤ b) {i : Nat} (hi : i < ns.length) : a ≤ ns.getD i 0 ∧ ns.getD i 0 ≤ b := by
  rw [List.getD_eq_getElem?_getD, List.getElem?_eq_getElem hi]
  exact h _ (List.getElem_mem hi)
theorem at_map {ns : List Int} {i : Nat} (h : i < ns.length) : atI (ns.map PyData.int) (i : Int) = some (.int (ns.getD i 0)) := by
  rw [List.getD_eq_getElem?_getD, List.getElem?_eq_getElem h]
  exact atI_map h
def prs (ns : List Int) : List PyData := zipD (ns.map .int) ((ns.drop 1).map .int)
theorem prs_len (ns : List Int) : (prs ns).length = ns.length - 1 := by
  unfold prs
  rw [zipD_len, List.length_map, List.length_map, List.length_drop]
  omega
theorem prs_get {ns : List Int} {i : Nat} (h : i + 1 < ns.length) : (prs ns)[i]? = some (.tuple [.int (ns.getD i 0), .int (ns.getD (i + 1) 0)]) := by
  unfold prs
  refine zipD_get ?_ ?_
  · rw [List.getElem?_map, List.getD_eq_getElem?_getD, List.getElem?_eq_getElem (by omega)]
    rfl
  · rw [List.getElem?_map, List.getElem?_drop, List.getD_eq_getElem?_getD, Nat.add_comm, List.getElem?_eq_getElem h]
    rfl
theorem prs_get' {ns : List Int} {i : Nat} {x : PyData} (h : (prs ns)[i]? = some x) : i + 1 < ns.length ∧ x = .tuple [.int (ns.getD i 0), .int (ns.getD (i + 1) 0)] := by
  have hl := (List.getElem?_eq_some_iff.mp h).1
  rw [prs_len] at hl
  have hi : i + 1 < ns.length := by omega
  rw [prs_get hi] at h
  exact ⟨hi, (Option.some.inj h).symm⟩
theorem roll_S {k : Nat} {d : Dice} {n : Int} (h : Dok k d) (hk : k ≤ 1000000) (h1 : 0 < n) (h2 : n < 1073741824) : S_roll d.l [.int n] (.ret (.da (.int (rollV d n)))) (rollS d n).l := ⟨k, d, n, hk, h, h1, h2, rfl, rfl, rfl, rfl⟩
def dN (d : Dice) (m : Int) : Nat → Dice
  | 0 => d
  | i + 1 => rollS (dN d m i) m
theorem dN_ok {d : Dice} {k : Nat} {m : Int} (h : Dok k d) (hm : 0 < m) : ∀ i, Dok (k + i) (dN d m i)
  | 0 => h
  | i + 1 => roll_ok (dN_ok h hm i) hm
theorem Dok.le {d : Dice} {k n : Nat} (h : Dok k d) (hk : k ≤ n) : Dok n d := ⟨h.a0, h.b0, h.b1, h.c0, by have := h.c1; omega⟩
theorem rngD_map (f : Nat → PyData) (g : PyData → PyData) (h : ∀ i : Nat, g (.int (i : Int)) = f i) : ∀ n : Nat, (rngD 0 n).map g = (List.range n).map f := by
  intro n
  refine List.ext_getElem? fun i => ?_
  rw [List.getElem?_map, List.getElem?_map]
  by_cases hi : i < n
  · have := rngD_get (lo := 0) hi
    rw [Int.zero_add] at this
    rw [this, List.getElem?_range hi]
    exact congrArg some (h i)
  · rw [List.getElem?_eq_none (by rw [rngD_len]; omega), List.getElem?_eq_none (by rw [List.length_range]; omega)]
    rfl
def toI : PyData → Nat
  | .int n => n.toNat
  | _ => 0
theorem rngD_ints (n : Nat) : rngD 0 n = (List.range n).map fun (i : Nat) => PyData.int (i : Int) := by
  have := rngD_map (fun i => PyData.int (i : Int)) (fun x => x) (fun i => rfl) n
  rwa [List.map_id'] at this
def pv (d : Dice) (a b : Int) : Int := if rollV d 2 = 0 then a else b
theorem pick_S {k : Nat} {d : Dice} {a b : Int} (h : Dok k d) (hk : k ≤ 1000000) : S_pick d.l [.list [.int a, .int b]] (.ret (.da (.int (pv d a b)))) (rollS d 2).l := by
  refine ⟨k, d, [.int a, .int b], .int (pv d a b), hk, h, Nat.zero_lt_succ _, (by show 2 < 1000000; decide), rfl, rfl, ?_, rfl, rfl⟩
  have hr := roll_in (d := d) (n := 2) (by decide)
  show [PyData.int a, .int b][(rollV d 2).toNat]? = _
  unfold pv
  by_cases hz : rollV d 2 = 0
  · rw [if_pos hz, hz]
    rfl
  · have e : rollV d 2 = 1 := by omega
    rw [if_neg hz, e]
    rfl
theorem rt_chainT {X : Cx} {p : Pm} {ρ ρ1 ρ2 : Rho} {a b c : Expr} {ra rb rc : Rs} {k1 k2 : Bool} {pos : Pos} {op op' : CmpOp} (ha : RV X p a ρ ra ρ1) (hb : RV X p b ρ1 rb ρ2) (h1 : OpV X p (compareOp op) ra rb ρ2 (.da (.bool k1))) (hc : k1 = true → RV X p c ρ2 rc ρ2)
    (h2 : k1 = true → OpV X p (compareOp op') rb rc ρ2 (.da (.bool k2))) (hm : lastMarks [op, op'] [b, c] = false := by with_unfolding_all rfl) : RT X p (.Compare a [op, op'] [b, c] pos) ρ (k1 && k2) ρ2 := by
  obtain ⟨ta, pa, ea⟩ := ha
  obtain ⟨tb, pb, eb⟩ := hb
  obtain ⟨q, oq, hq⟩ := h1
  cases k1 with
  | true =>
    obtain ⟨tc, pc, ec⟩ := hc rfl
    obtain ⟨q', oq', hq'⟩ := h2 rfl
    refine ⟨_, pt_chain oq oq' pa pb pc hm, fun σ H B w F Q k => ea σ H B w F _ fun x H1 B1 w1 s1 F1 i1 => eb σ H1 B1 w1 F1 _ fun y H2 B2 w2 s2 F2 i2 =>
      hq σ H2 B2 w2 x y H F2 F2.ext (i1.step s2) (i2.back s1) _ fun z H3 B3 w3 s3 F3 d3 => ⟨true, dp_bool d3, ?_⟩⟩
    rw [if_pos rfl]
    exact ec σ H3 B3 w3 F3 _ fun z H4 B4 w4 s4 F4 i4 => hq' σ H4 B4 w4 y z H F4 F4.ext (((i2.back s1).step s3).step s4) (((i4.back s3).back s2).back s1) _ fun u H5 B5 w5 s5 F5 d5 => ⟨k2, dp_bool d5, k H5 B5 w5 ((((s1.trans s2).trans s3).trans s4).trans s5) F5⟩
  | false =>
    refine ⟨_, pt_chain (op' := op') (r' := fun _ _ _ _ => False) oq (fun _ _ _ _ _ _ _ _ _ _ _ _ h => h.elim) pa pb pe_no hm, fun σ H B w F Q k => ea σ H B w F _ fun x H1 B1 w1 s1 F1 i1 => eb σ H1 B1 w1 F1 _ fun y H2 B2 w2 s2 F2 i2 =>
      hq σ H2 B2 w2 x y H F2 F2.ext (i1.step s2) (i2.back s1) _ fun z H3 B3 w3 s3 F3 d3 => ⟨false, dp_bool d3, ?_⟩⟩
    rw [if_neg (by decide)]
    exact ⟨false, rfl, k H3 B3 w3 ((s1.trans s2).trans s3) F3⟩
theorem rv_eqL {X : Cx} {p : Pm} {e : Expr} {ρ ρ1 : Rho} {xs ys : List PyData} (h : RV X p e ρ (.li xs) ρ1) (ex : xs = ys) : RV X p e ρ (.li ys) ρ1 := ex ▸ h
theorem rf_true {X : Cx} {p : Pm} {er : Er} {ρ ρ1 : Rho} {e : Expr} {pos : Pos} {sts : List Stmt} {b : Bool} (h : RV X p e ρ (.da (.bool b)) ρ1) (hb : b = true) : RSf X p er (.Return (some e) pos :: sts) ρ (.ret (.da (.bool true))) := by
  subst hb
  exact rf_ret h

end
end KX

set_option Elab.async false
set_option linter.all false
set_option maxRecDepth 100000
set_option maxHeartbeats 4000000
namespace KX
open PySem PySem.Spec PyProof.Rows L2 Dn TL
local macro_rules | `(tactic| walk_at "ovAdd") => `(tactic| first | exact ov_add | exact ov_catT (by walk_at "side"))
local macro_rules | `(tactic| walk_at "ovSub") => `(tactic| exact ov_sub)
local macro_rules | `(tactic| walk_at "ovMult") => `(tactic| first | exact ov_mul (by walk_at "side") | exact ov_mulW (by walk_at "side"))
local macro_rules | `(tactic| walk_at "ovMod") => `(tactic| exact ov_mod (by walk_at "side"))
local macro_rules | `(tactic| walk_at "ovFloorDiv") => `(tactic| first | exact ov_fdiv ⟨by omega, by omega⟩ | exact ov_fdivW (by walk_at "side"))
local macro_rules | `(tactic| walk_at "ovPow") => `(tactic| exact ov_pow ⟨by decide, by decide, by decide⟩)
local macro_rules | `(tactic| walk_at "side") => `(tactic| first | omega | assumption | (exact .inl ⟨by omega, by omega⟩) | (exact .inr ⟨by omega, by omega⟩) | decide)
local macro_rules | `(tactic| walk_at "ovLt") => `(tactic| exact ov_lt)
local macro_rules | `(tactic| walk_at "ovLtE") => `(tactic| exact ov_le)
local macro_rules | `(tactic| walk_at "ovGt") => `(tactic| exact ov_gt)
local macro_rules | `(tactic| walk_at "ovGtE") => `(tactic| exact ov_ge)
local macro_rules | `(tactic| walk_at "ovEq") => `(tactic| first | exact ov_eqI | exact ov_eqB)
local macro_rules | `(tactic| walk_at "ovNotEq") => `(tactic| first | exact ov_neI | exact ov_neB)
local macro_rules | `(tactic| walk_at "ovIs") => `(tactic| first | exact ov_isN | exact ov_isB)
local macro_rules | `(tactic| walk_at "ovIsNot") => `(tactic| first | exact ov_notN | exact ov_notB)
local macro_rules | `(tactic| walk_at "vw") => `(tactic| first | exact Vw.dl | exact Vw.dt | exact Vw.li | exact Vw.sl rfl)
local macro_rules | `(tactic| walk_at "dv") => `(tactic| first | exact Dv.da | exact Dv.li | exact Dv.sl rfl)
local macro_rules | `(tactic| walk_at "at") => `(tactic| first | rfl | assumption)
local macro_rules | `(tactic| walk_at "isi") => `(tactic| first | exact kb_int _ | exact kb_bool _ | exact kb_tuple _ | exact kb_str _)
local macro_rules | `(tactic| walk_at "room") => `(tactic| exact Room.mono (by assumption) (by decide))
local macro_rules | `(tactic| walk_at "cvlen") => `(tactic| exact cv_len (by walk_at "vw"))
local macro_rules | `(tactic| walk_at "cvabs") => `(tactic| exact cv_abs)
local macro_rules | `(tactic| walk_at "cvint") => `(tactic| exact cv_int)
local macro_rules | `(tactic| walk_at "cvmax") => `(tactic| exact cv_max2 rfl)
local macro_rules | `(tactic| walk_at "cvmin") => `(tactic| exact cv_min2 rfl)
local macro_rules | `(tactic| walk_at "cvtuple") => `(tactic| exact cv_tuple (by walk_at "vw"))
local macro_rules | `(tactic| walk_at "cvlist") => `(tactic| exact cv_list (by walk_at "vw"))
local macro_rules | `(tactic| walk_at "wk") => `(tactic| repeat (first | exact Wk.nil | refine Wk.same ?_ | refine Wk.drop ?_))
local macro_rules | `(tactic| walk_at "rng") => `(tactic| (refine ⟨?_, ?_⟩ <;> omega))

local macro_rules | `(tactic| walk_at "sp") => `(tactic| first | exact ⟨_, rfl, rfl⟩ | exact ⟨_, _, rfl, rfl⟩ | exact ⟨_, _, _, rfl, rfl⟩ | exact ⟨_, _, _, _, _, by decide, rfl, rfl⟩)
section
variable {P : Program} {w : World} {K : PySem.W.Frag} {mg : Str → Option Value} {base : Heap} {TT : List (Addr × Str)} {C : Addr}
/-! things -/
structure Th where
  b : Int
  e : Int
  lo : Int
  hi : Int
def tD (t : Th) : PyData := .tuple [.int t.b, .int t.e, .int t.lo, .int t.hi]
structure TOk (n : Int) (t : Th) : Prop where
  b0 : 0 ≤ t.b
  b1 : t.b < n
  e0 : t.b < t.e
  e1 : t.e ≤ n
  l0 : 0 ≤ t.lo
  l1 : t.lo ≤ 120
  h0 : t.lo ≤ t.hi
  h1 : t.hi ≤ 120
def isThing (n : Int) : PyData → Bool
  | .tuple [.int x, b, .int y, d] => isIn (.int x) 0 (n - 1) && (isIn b (x + 1) n && (isIn (.int y) 0 120 && isIn d y 120))
  | _ => false
theorem isThing_of {n : Int} {z : PyData} (h : isThing n z = true) : ∃ t, z = tD t ∧ TOk n t := by
  unfold isThing at h
  split at h
  · rename_i x b y d
    rw [Bool.and_eq_true, Bool.and_eq_true, Bool.and_eq_true] at h
    obtain ⟨h1, h2, h3, h4⟩ := h
    obtain ⟨x', ex, x0, x1⟩ := isIn_of h1
    obtain ⟨b', rfl, b0, b1⟩ := isIn_of h2
    obtain ⟨y', ey, y0, y1⟩ := isIn_of h3
    obtain ⟨d', rfl, d0, d1⟩ := isIn_of h4
    cases ex
    cases ey
    exact ⟨⟨x, b', y, d'⟩, rfl, x0, by show x < n; omega, by show x < b'; omega, b1, y0, y1, d0, d1⟩
  · cases h
theorem isThing_ok {n : Int} {t : Th} (h : TOk n t) : isThing n (tD t) = true := by
  obtain ⟨a, b, c, d, e, f, g, i⟩ := h
  show (isIn (.int t.b) 0 (n - 1) && (isIn (.int t.e) (t.b + 1) n && (isIn (.int t.lo) 0 120 && isIn (.int t.hi) t.lo 120))) = true
  rw [isIn_int a (by omega), isIn_int (by omega) d, isIn_int e f, isIn_int g i]
  rfl
def twoB : PyData → PyData → Bool
  | .int y, d => isIn (.int y) 0 120 && isIn d y 120
  | _, _ => false
def S_it (xs : List PyData) (oc : Oc) : Prop := ∃ z n, xs = [z, .int n] ∧ oc = .ret (.da (.bool (isThing n z)))
theorem rt_eq {X : Cx} {p : Pm} {e : Expr} {ρ ρ1 : Rho} {a b : Bool} (h : RT X p e ρ a ρ1) (e1 : a = b) : RT X p e ρ b ρ1 := e1 ▸ h
theorem df_is_thing (T : Txt P w K mg base TT C) : Df P w K mg base "is_thing" 2 ["value", "days"] (spP K TT C "name" S_it) := by
  refine df_of T.f_is_thing fun f fd F => ok_pure F sc_is_thing (fun xs oc h => by obtain ⟨_, _, rfl, _⟩ := h; rfl) fun cdv A outer s H E hr xs oc hS => ?_
  obtain ⟨z, n, rfl, rfl⟩ := hS
  by_cases h4 : ∃ a b c d, z = .tuple [a, b, c, d]
  · obtain ⟨a, b, c, d, rfl⟩ := h4
    by_cases ha : ∃ x, a = .int x
    · obtain ⟨x, rfl⟩ := ha
      have tst : ∀ k1, k1 = (isIn (.int x) 0 (n - 1) && isIn b (x + 1) n) → RT (CxD P w K mg base N_is_thing "is_thing" s_is_thing f cdv A outer s H E) ⟨TT, noφ⟩ (match (defBody s_is_thing).getD 0 (.Pass ⟨0, 0, 0, 0⟩) with | .If c _ _ _ => c | _ => .Name "" ⟨0, 0, 0, 0⟩) [dd (.tuple [.int x, b, c, d]), dd (.int n)] (!k1) [dd (.tuple [.int x, b, c, d]), dd (.int n)] := fun k1 e => by
        rw [e]
        refine rt_eq (a := (!isTup (.tuple [.int x, b, c, d]) 4 4 || (!isIn (.int x) 0 (n - 1) || !isIn b (x + 1) n))) (rt_w (rw_or (rt_not (rt_val (rv_call (xs := [_, _, _]) (df_is_tuple T) (by walk_at "room") (ra_cons (by first | exact rv_name 0 | exact rv_slot 0) (ra_cons rv_int (ra_cons rv_int ra_nil))) (by walk_at "sp")))) fun _ => rw_or (rt_not (rt_val (rv_call (xs := [_, _, _]) (df_is_in T) (by walk_at "room") (ra_cons (rv_at (by first | exact rv_name 0 | exact rv_slot 0) rv_int (by walk_at "vw") (by walk_at "at")) (ra_cons rv_int (ra_cons (rv_bin (by first | exact rv_name 1 | exact rv_slot 1) rv_int (by walk_at "ovSub")) ra_nil))) (by walk_at "sp")))) fun _ => rw_or1 (rt_not (rt_val (rv_call (xs := [_, _, _]) (df_is_in T) (by walk_at "room") (ra_cons (rv_at (by first | exact rv_name 0 | exact rv_slot 0) rv_int (by walk_at "vw") (by walk_at "at")) (ra_cons (rv_bin (rv_at (by first | exact rv_name 0 | exact rv_slot 0) rv_int (by walk_at "vw") (by walk_at "at")) rv_int (by walk_at "ovAdd")) (ra_cons (by first | exact rv_name 1 | exact rv_slot 1) ra_nil))) (by walk_at "sp")))))) ?_
        rw [show isTup (.tuple [.int x, b, c, d]) 4 4 = true from rfl]
        cases isIn (.int x) 0 (n - 1) <;> cases isIn b (x + 1) n <;> rfl
      have e0 : isThing n (.tuple [.int x, b, c, d]) = ((isIn (.int x) 0 (n - 1) && isIn b (x + 1) n) && twoB c d) := by
        cases c with
        | int y =>
          show (isIn (.int x) 0 (n - 1) && (isIn b (x + 1) n && (isIn (.int y) 0 120 && isIn d y 120))) = _
          rw [Bool.and_assoc]
          rfl
        | _ => exact (Bool.and_false _).symm
      cases hk : (isIn (.int x) 0 (n - 1) && isIn b (x + 1) n) with
      | false =>
        rw [e0, hk, Bool.false_and]
        exact rf_ifT (rt_eq (tst _ rfl) (by rw [hk]; rfl)) ⟨_, rss_one (rs_ret rv_bl), .da, fun _ h => nomatch h⟩
      | true =>
        rw [e0, hk, Bool.true_and]
        refine rf_ifF (rt_eq (tst _ rfl) (by rw [hk]; rfl)) ?_ rfl
        by_cases hc : ∃ y, c = .int y
        · obtain ⟨y, rfl⟩ := hc
          exact rf_ret (rv_and (rv_call (xs := [_, _, _]) (df_is_in T) (by walk_at "room") (ra_cons (rv_at (by first | exact rv_name 0 | exact rv_slot 0) rv_int (by walk_at "vw") (by walk_at "at")) (ra_cons rv_int (ra_cons (rv_gint T.c_MOST_NEED) ra_nil))) (by walk_at "sp")) fun _ => rv_and1 (rv_call (xs := [_, _, _]) (df_is_in T) (by walk_at "room") (ra_cons (rv_at (by first | exact rv_name 0 | exact rv_slot 0) rv_int (by walk_at "vw") (by walk_at "at")) (ra_cons (rv_at (by first | exact rv_name 0 | exact rv_slot 0) rv_int (by walk_at "vw") (by walk_at "at")) (ra_cons (rv_gint T.c_MOST_NEED) ra_nil))) (by walk_at "sp")))
        · have ec : isIn c 0 120 = false := by
            cases c with
            | int y => exact absurd ⟨y, rfl⟩ hc
            | _ => rfl
          have em : twoB c d = false := by
            cases c with
            | int y => exact absurd ⟨y, rfl⟩ hc
            | _ => rfl
          rw [em]
          exact rf_ret (rv_eqD (rv_and (k2 := false) (rv_call (xs := [_, _, _]) (df_is_in T) (by walk_at "room") (ra_cons (rv_at (by first | exact rv_name 0 | exact rv_slot 0) rv_int (by walk_at "vw") (by walk_at "at")) (ra_cons rv_int (ra_cons (rv_gint T.c_MOST_NEED) ra_nil))) (by walk_at "sp")) fun h => by rw [ec] at h; cases h) (by rw [Bool.and_false]))
    · have ea : isIn a 0 (n - 1) = false := by
        cases a with
        | int y => exact absurd ⟨y, rfl⟩ ha
        | _ => rfl
      have e0 : isThing n (.tuple [a, b, c, d]) = false := by
        cases a with
        | int y => exact absurd ⟨y, rfl⟩ ha
        | _ => rfl
      rw [e0]
      exact rf_ifT (ρ1 := [dd (.tuple [a, b, c, d]), dd (.int n)]) (rt_eq (a := (!isTup (.tuple [a, b, c, d]) 4 4 || (!isIn a 0 (n - 1) || false))) (rt_w (rw_or (rt_not (rt_val (rv_call (xs := [_, _, _]) (df_is_tuple T) (by walk_at "room") (ra_cons (by first | exact rv_name 0 | exact rv_slot 0) (ra_cons rv_int (ra_cons rv_int ra_nil))) (by walk_at "sp")))) fun _ => rw_or (rt_not (rt_val (rv_call (xs := [_, _, _]) (df_is_in T) (by walk_at "room") (ra_cons (rv_at (by first | exact rv_name 0 | exact rv_slot 0) rv_int (by walk_at "vw") (by walk_at "at")) (ra_cons rv_int (ra_cons (rv_bin (by first | exact rv_name 1 | exact rv_slot 1) rv_int (by walk_at "ovSub")) ra_nil))) (by walk_at "sp")))) fun h => by rw [ea] at h; cases h)) (by rw [ea]; rfl)) ⟨_, rss_one (rs_ret rv_bl), .da, fun _ h => nomatch h⟩
  · have e1 : isTup z 4 4 = false := by
      cases z with
      | tuple xs =>
        match xs with
        | [] => rfl
        | [x] => rfl
        | [x, y] => rfl
        | [x, y, u] => rfl
        | [x, y, u, v] => exact absurd ⟨x, y, u, v, rfl⟩ h4
        | x :: y :: u :: v :: q :: r =>
          show (decide ((4 : Int) ≤ ((x :: y :: u :: v :: q :: r).length : Int)) && decide (((x :: y :: u :: v :: q :: r).length : Int) ≤ 4)) = false
          rw [Bool.and_eq_false_iff, decide_eq_false_iff_not, decide_eq_false_iff_not]
          simp only [List.length_cons]
          omega
      | _ => rfl
    have e2 : isThing n z = false := by
      unfold isThing
      split
      · exact absurd ⟨_, _, _, _, rfl⟩ h4
      · rfl
    rw [e2]
    exact rf_ifT (ρ1 := [dd z, dd (.int n)]) (rt_eq (a := (!isTup z 4 4 || false)) (rt_w (rw_or (rt_not (rt_val (rv_call (xs := [_, _, _]) (df_is_tuple T) (by walk_at "room") (ra_cons (by first | exact rv_name 0 | exact rv_slot 0) (ra_cons rv_int (ra_cons rv_int ra_nil))) (by walk_at "sp")))) fun h => by rw [e1] at h; cases h)) (by rw [e1]; rfl)) ⟨_, rss_one (rs_ret rv_bl), .da, fun _ h => nomatch h⟩
def goodT (n : Int) : PyData → Bool
  | .tuple xs => decide (0 ≤ (xs.length : Int)) && decide ((xs.length : Int) ≤ 6) && xs.all (isThing n)
  | _ => false
def TD (ts : List Th) : PyData := .tuple (ts.map tD)
structure HOk (n : Int) (ts : List Th) : Prop where
  len : ts.length ≤ 6
  ok : ∀ t ∈ ts, TOk n t
theorem goodT_of {n : Int} {z : PyData} (h : goodT n z = true) : ∃ ts, z = TD ts ∧ HOk n ts := by
  unfold goodT at h
  split at h
  · rename_i xs
    rw [Bool.and_eq_true, Bool.and_eq_true, decide_eq_true_eq, decide_eq_true_eq] at h
    obtain ⟨⟨_, h2⟩, h3⟩ := h
    have key : ∀ l : List PyData, l.all (isThing n) = true → ∃ ts : List Th, l = ts.map tD ∧ ∀ t ∈ ts, TOk n t := by
      intro l
      induction l with
      | nil => exact fun _ => ⟨[], rfl, fun _ h => by cases h⟩
      | cons x r ih =>
        intro hl
        rw [List.all_cons, Bool.and_eq_true] at hl
        obtain ⟨t, rfl, ht⟩ := isThing_of hl.1
        obtain ⟨ts, rfl, hn⟩ := ih hl.2
        refine ⟨t :: ts, rfl, fun m hm => ?_⟩
        rcases List.mem_cons.mp hm with rfl | hm
        · exact ht
        · exact hn m hm
    obtain ⟨ts, rfl, hk⟩ := key xs h3
    rw [List.length_map] at h2
    exact ⟨ts, rfl, by omega, hk⟩
  · cases h
theorem goodT_ok {n : Int} {ts : List Th} (h : HOk n ts) : goodT n (TD ts) = true := by
  have h2 := h.len
  show (decide (0 ≤ ((ts.map tD).length : Int)) && decide (((ts.map tD).length : Int) ≤ 6) && (ts.map tD).all (isThing n)) = true
  rw [List.length_map, decide_eq_true (by omega), decide_eq_true (by omega), Bool.true_and, Bool.true_and, List.all_eq_true]
  intro x hx
  obtain ⟨t, ht, rfl⟩ := List.mem_map.mp hx
  exact isThing_ok (h.ok t ht)
/-- most, things are wrong -/
def BadH (z y : PyData) (oc : Oc) : Prop := (areIn z 0 12 0 9 = false ∧ oc = .err "most") ∨ ∃ ms : List Int, z = .tuple (ms.map .int) ∧ areIn z 0 12 0 9 = true ∧ goodT ms.length y = false ∧ oc = .err "things"
def OkH (z y : PyData) : Prop := ∃ ms : List Int, z = .tuple (ms.map .int) ∧ areIn z 0 12 0 9 = true ∧ goodT ms.length y = true
def S_dh (xs : List PyData) (oc : Oc) : Prop := ∃ z y, xs = [z, y] ∧ (BadH z y oc ∨ (OkH z y ∧ oc = .ret (.da .none)))
theorem df_demand_house (T : Txt P w K mg base TT C) : Df P w K mg base "demand_house" 4 ["most", "things"] (spP K TT C "name" S_dh) := by
  refine df_of T.f_demand_house fun f fd F => ok_pure F sc_demand_house (fun xs oc h => by obtain ⟨_, _, rfl, _⟩ := h; rfl) fun cdv A outer s H E hr xs oc hS => ?_
  obtain ⟨z, y, rfl, hS⟩ := hS
  refine rf_dem (nm := "most") (b := areIn z 0 12 0 9) T (by walk_at "room") takes_D (ra_cons (rv_call (xs := [_, _, _, _, _]) (df_are_in T) (by walk_at "room") (ra_cons (by first | exact rv_name 0 | exact rv_slot 0) (ra_cons rv_int (ra_cons (rv_gint T.c_MOST_DAYS) (ra_cons rv_int (ra_cons (rv_gint T.c_MOST_FIRES) ra_nil))))) (by walk_at "sp")) (ra_cons rv_str ra_nil)) (fun h => ?_) fun h => ?_
  · obtain ⟨ms, rfl, hz, hy⟩ : ∃ ms : List Int, z = .tuple (ms.map .int) ∧ areIn z 0 12 0 9 = true ∧ ((goodT ms.length y = false ∧ oc = .err "things") ∨ (goodT ms.length y = true ∧ oc = .ret (.da .none))) := by
      rcases hS with (⟨h1, _⟩ | ⟨ms, e, h1, h2, h3⟩) | ⟨⟨ms, e, h1, h2⟩, h3⟩
      · rw [h] at h1; cases h1
      · exact ⟨ms, e, h1, .inl ⟨h2, h3⟩⟩
      · exact ⟨ms, e, h1, .inr ⟨h2, h3⟩⟩
    have second : goodT ms.length y = true → RSf (CxD P w K mg base N_demand_house "demand_house" s_demand_house f cdv A outer s H E) ⟨TT, noφ⟩ ⟨C, "name", E⟩ [] (startR N_demand_house [.tuple (ms.map .int), y]) oc := fun hg => by
      rcases hy with ⟨h1, _⟩ | ⟨_, rfl⟩
      · rw [hg] at h1; cases h1
      · exact rf_nil
    have first : goodT ms.length y = false → oc = .err "things" := fun hg => by
      rcases hy with ⟨_, e⟩ | ⟨h1, _⟩
      · exact e
      · rw [hg] at h1; cases h1
    by_cases ht : ∃ xs, y = .tuple xs
    · obtain ⟨xs, rfl⟩ := ht
      have hlen : ((ms.map PyData.int).length : Int) = ms.length := by rw [List.length_map]
      refine rf_dem (nm := "things") (b := goodT ms.length (.tuple xs)) T (by walk_at "room") takes_D ?_ second first
      refine ra_cons (rv_and (rv_call (xs := [_, _, _]) (df_is_tuple T) (by walk_at "room") (ra_cons (by first | exact rv_name 1 | exact rv_slot 1) (ra_cons rv_int (ra_cons (rv_gint T.c_MOST_THINGS) ra_nil))) (by walk_at "sp")) fun h => rv_and1 (rv_callB (ra_cons (rv_map (own := [("one", 2)]) (fun x => .bool (isThing ms.length x)) rfl sc_demand_house.nd (by first | exact iv_tup (by first | exact rv_name 1 | exact rv_slot 1) | exact iv_list (by first | exact rv_name 1 | exact rv_slot 1) | exact iv_list (rv_settle (by first | exact rv_name 1 | exact rv_slot 1))) (blkOk_by (N := N_demand_house) (sc := defScope s_demand_house) (by decide +kernel)) rfl (by
        have h' : (decide ((0 : Int) ≤ (xs.length : Int)) && decide ((xs.length : Int) ≤ 6)) = true := h
        simp at h'
        omega) (fun i x hx => ⟨_, _, fun j hj => hj, fun s H C cl fp => (gv_name 2 sc_demand_house.nd), by walk_at "wk", _, fun s H C cl fp => rv_call (xs := [_, _]) (df_is_thing T) (by walk_at "room") (ra_cons (by first | exact rv_name 2 | exact rv_slot 2) (ra_cons (rv_callB (ra_cons (by first | exact rv_name 0 | exact rv_slot 0) ra_nil) (by walk_at "cvlen") T.b_len) ra_nil)) (by rw [hlen]; exact ⟨_, _, rfl, rfl⟩), by walk_at "wk"⟩)) ra_nil) (cv_allM rfl) T.b_all)) (ra_cons rv_str ra_nil)
    · have e1 : isTup y 0 6 = false := by
        cases y with
        | tuple xs => exact absurd ⟨xs, rfl⟩ ht
        | _ => rfl
      have e2 : goodT ms.length y = false := by
        cases y with
        | tuple xs => exact absurd ⟨xs, rfl⟩ ht
        | _ => rfl
      refine rf_dem (nm := "things") (b := (isTup y 0 6 && false)) T (by walk_at "room") takes_D ?_ (fun h => by rw [e1] at h; cases h) fun _ => first e2
      exact ra_cons (rv_and (k2 := false) (rv_call (xs := [_, _, _]) (df_is_tuple T) (by walk_at "room") (ra_cons (by first | exact rv_name 1 | exact rv_slot 1) (ra_cons rv_int (ra_cons (rv_gint T.c_MOST_THINGS) ra_nil))) (by walk_at "sp")) fun h => by rw [e1] at h; cases h) (ra_cons rv_str ra_nil)
  · rcases hS with (⟨_, e⟩ | ⟨ms, _, h1, _⟩) | ⟨⟨ms, _, h1, _⟩, _⟩
    · exact e
    · rw [h] at h1; cases h1
    · rw [h] at h1; cases h1
/-- demand_house(..) as a row of its own -/
theorem rf_dh {X : Cx} {p : Pm} {E : XK} {ρ : Rho} {e1 e2 : Expr} {pp p1 p2 : Pos} {sts : List Stmt} {oc : Oc} {z y : PyData} (T : Txt X.prog X.w X.K X.mg X.base p.T C) (hr : Room 4 X.A) (tk : Takes X (fun cls d _ H => E cls d H)) (ha : RA X p [e1, e2] ρ [.da z, .da y] ρ)
    (hS : BadH z y oc ∨ (OkH z y ∧ RSf X p ⟨C, "name", E⟩ sts ρ oc)) (hg : Gl X "demand_house" := by rfl) (he : starEach [e1, e2] X.env = (false, eval e1 X.env) :: starEach [e2] X.env := by rfl) (hpl : (backTo p1 (starEach [e2] X.env)).any (·.1) = false := by rfl)
    (hs : swapsWith (.Call (.Name "demand_house" pp) [e1, e2] [] p1) none p2.line X.env = pure false := by rfl) : RSf X p ⟨C, "name", E⟩ (.Expr (.Call (.Name "demand_house" pp) [e1, e2] [] p1) p2 :: sts) ρ oc := by
  rcases hS with hb | ⟨h1, h3⟩
  · have : ∃ nm, oc = .err nm := by
      rcases hb with ⟨_, e⟩ | ⟨_, _, _, _, e⟩
      · exact ⟨_, e⟩
      · exact ⟨_, e⟩
    obtain ⟨nm, rfl⟩ := this
    exact rf_er (rs_exprX (rx_call (xs := [_, _]) (er := ⟨C, "name", E⟩) (df_demand_house T) hr tk ha ⟨_, _, rfl, .inl hb⟩ hg (by decide) he hpl) hs)
  · exact rf_cons (rs_expr (rv_call (xs := [_, _]) (df_demand_house T) hr ha ⟨_, _, rfl, .inr ⟨h1, rfl⟩⟩ (fun _ h => nomatch h) hg (by decide) he hpl) hs) h3
/-- smoke of a thing -/
def sg (ps : List Int) (t : Th) : Int := (cutA ps (some t.b) (some t.e)).sum
def rtB (ps : List Int) (t : Th) : Bool := decide (t.lo ≤ sg ps t) && decide (sg ps t ≤ t.hi)
def S_ir (xs : List PyData) (oc : Oc) : Prop := ∃ (ps : List Int) (t : Th), xs = [.tuple (ps.map .int), tD t] ∧ oc = .ret (.da (.bool (rtB ps t)))

end
def natsD (l : List Nat) : List PyData := l.map fun (i : Nat) => .int (i : Int)
theorem natsD_len (l : List Nat) : (natsD l).length = l.length := by unfold natsD; rw [List.length_map]
theorem natsD_get {p : List Nat} {j : Nat} {x : PyData} (h : (natsD p)[j]? = some x) : ∃ i, p[j]? = some i ∧ x = .int (i : Int) := by
  unfold natsD at h
  rw [List.getElem?_map] at h
  obtain ⟨i, h1, h2⟩ := Option.map_eq_some_iff.mp h
  exact ⟨i, h1, h2.symm⟩
theorem any_nats (tk : List Nat) (k : Nat) : ((natsD tk).any fun z => PyData.eqv z (.int (k : Int))) = decide (k ∈ tk) := by
  induction tk with
  | nil => rfl
  | cons a l ih =>
    show (PyData.eqv (.int (a : Int)) (.int (k : Int)) || (natsD l).any fun z => PyData.eqv z (.int (k : Int))) = _
    rw [ih]
    by_cases e : a = k
    · subst e
      simp [PyData.eqv]
    · have : ¬ ((a : Int) = (k : Int)) := by omega
      have h2 : ¬ k = a := fun z => e z.symm
      simp [PyData.eqv, this, h2]
def natsI (l : List Nat) : List Int := l.map fun (i : Nat) => (i : Int)
theorem natsD_I (l : List Nat) : natsD l = (natsI l).map .int := by unfold natsD natsI; rw [List.map_map]; rfl
theorem natsI_mem {l : List Nat} {k : Nat} : (k : Int) ∈ natsI l ↔ k ∈ l := by
  unfold natsI
  rw [List.mem_map]
  exact ⟨fun ⟨a, h, e⟩ => by rwa [← show a = k by omega], fun h => ⟨k, h, rfl⟩⟩
theorem natsI_inj {l m : List Nat} (h : natsI l = natsI m) : l = m := by
  have := congrArg (List.map Int.toNat) h
  unfold natsI at this
  rw [List.map_map, List.map_map] at this
  simpa [Function.comp_def] using this
theorem natsI_len (l : List Nat) : (natsI l).length = l.length := by unfold natsI; rw [List.length_map]
theorem shaped_nats (l : List Nat) : SeqAt.shaped (.list (natsD l)) = true := by rw [natsD_I]; exact shaped_li _
theorem shaped_natsT (l : List Nat) : SeqAt.shaped (.tuple (natsD l)) = true := by rw [natsD_I]; exact shaped_ti _
theorem flat_nats : ∀ l : List Nat, (natsD l).all flat = true
  | [] => rfl
  | _ :: l => flat_nats l
theorem nats_at {l : List Nat} {i k : Nat} (h : l[i]? = some k) : atI (natsD l) (i : Int) = some (.int (k : Int)) := by
  refine atI_nat ?_
  unfold natsD
  rw [List.getElem?_map, h]
  rfl

/-! texts of days and things -/
theorem rv_strE {X : Cx} {p : Pm} {ρ : Rho} {pos : Pos} {z : Str} {l : List Nat} {j} (h : tl z = l) : RV X p (.Constant (.str z) j pos) ρ (.da (TX l)) ρ := by
  have : TX l = .str z := by
    unfold TX
    rw [← h, tx_tl]
  rw [this]
  exact rv_str
def daysL : List Nat := [100, 97, 121, 115]
def thingL : List Nat := [116, 104, 105, 110, 103]
theorem tl_days : tl (Str.ofString "days") = daysL := by decide +kernel
theorem tl_thing : tl (Str.ofString "thing") = thingL := by decide +kernel
theorem tl_sp : tl (Str.ofString " ") = [32] := by decide +kernel
theorem tl_nl : tl (Str.ofString "\n") = [10] := by decide +kernel
theorem tl_no : tl (Str.ofString "") = [] := by decide +kernel
def nm (i : Int) : List Nat := numL i.toNat
theorem nm_len {i : Int} (h : i < 1000) : (nm i).length ≤ 3 := numL_len (by decide) (by omega)
theorem joinL_len (S : List Nat) : ∀ ls : List (List Nat), (joinL S ls).length ≤ (ls.map (·.length)).sum + ls.length * S.length
  | [] => Nat.zero_le _
  | [p] => by
    show p.length ≤ [p.length].sum + 1 * S.length
    simp
  | p :: q :: r => by
    have ih := joinL_len S (q :: r)
    show (p ++ (S ++ joinL S (q :: r))).length ≤ _
    rw [List.length_append, List.length_append, List.map_cons, List.sum_cons, List.length_cons, Nat.succ_mul]
    omega
theorem sum_le {l : List (List Nat)} {k : Nat} (h : ∀ p ∈ l, p.length ≤ k) : (l.map (·.length)).sum ≤ l.length * k := by
  induction l with
  | nil => exact Nat.zero_le _
  | cons p l ih =>
    rw [List.map_cons, List.sum_cons, List.length_cons, Nat.succ_mul]
    have := h p (.head _)
    have := ih fun q hq => h q (.tail _ hq)
    omega
/-- a line: a word and numbers -/
def lnL (w : List Nat) (ns : List Int) : List Nat := joinL [32] (w :: ns.map nm)
theorem lnL_sum {w : List Nat} {ns : List Int} (h : ∀ i ∈ ns, i < 1000) : ((w :: ns.map nm).map (·.length)).sum + (w :: ns.map nm).length * 1 ≤ w.length + ns.length * 4 + 1 := by
  have := sum_le (l := ns.map nm) (k := 3) fun p hp => by
    obtain ⟨i, hi, rfl⟩ := List.mem_map.mp hp
    exact nm_len (h i hi)
  rw [List.length_map] at this
  rw [List.map_cons, List.sum_cons, List.length_cons, List.length_map]
  omega
theorem lnL_len {w : List Nat} {ns : List Int} (h : ∀ i ∈ ns, i < 1000) : (lnL w ns).length ≤ w.length + ns.length * 4 + 1 :=
  Nat.le_trans (joinL_len [32] _) (lnL_sum h)
def tI (t : Th) : List Int := [t.b, t.e, t.lo, t.hi]
def tlL (t : Th) : List Nat := lnL thingL (tI t)
def hsLs (ms : List Int) (ts : List Th) : List (List Nat) := lnL daysL ms :: ts.map tlL
def hsT (ms : List Int) (ts : List Th) : List Nat := joinL [10] (hsLs ms ts)
theorem tI_lt {n : Int} {t : Th} (h : TOk n t) (hn : n ≤ 12) : ∀ i ∈ tI t, 0 ≤ i ∧ i < 1000 := fun i hi => by
  have := h.b0; have := h.b1; have := h.e0; have := h.e1; have := h.l0; have := h.l1; have := h.h0; have := h.h1
  rcases List.mem_cons.mp hi with rfl | hi
  · omega
  rcases List.mem_cons.mp hi with rfl | hi
  · omega
  rcases List.mem_cons.mp hi with rfl | hi
  · omega
  rw [List.mem_singleton.mp hi]
  omega
theorem tlL_len {n : Int} {t : Th} (h : TOk n t) (hn : n ≤ 12) : (tlL t).length ≤ 22 := Nat.le_trans (lnL_len fun i hi => (tI_lt h hn i hi).2) (by show 5 + 4 * 4 + 1 ≤ 22; decide)
theorem lnd_len {ms : List Int} (hl : ms.length ≤ 12) (h : ∀ i ∈ ms, i < 1000) : (lnL daysL ms).length ≤ 53 := Nat.le_trans (lnL_len h) (by show 4 + ms.length * 4 + 1 ≤ 53; omega)
def stP : PyData → PyData
  | .int i => TX (nm i)
  | x => x
theorem stP_map (w : List Nat) (ns : List Int) : [TX w] ++ (ns.map PyData.int).map stP = (w :: ns.map nm).map TX := by
  rw [List.map_map, List.map_cons, List.map_map]
  rfl
section
variable {P : Program} {w : World} {K : PySem.W.Frag} {mg : Str → Option Value} {base : Heap} {TT : List (Addr × Str)} {C : Addr}
/-- days and things that are right -/
structure MsOk (ms : List Int) : Prop where
  len : ms.length ≤ 12
  ok : ∀ i ∈ ms, 0 ≤ i ∧ i ≤ 9
theorem areIn_ms {ms : List Int} (h : areIn (.tuple (ms.map .int)) 0 12 0 9 = true) : MsOk ms := by
  obtain ⟨ns, e, h1, h2, h3⟩ := areIn_of h
  have : ms = ns := by
    have e : ms.map PyData.int = ns.map .int := by injection e
    have h := congrArg (List.map fun d => match d with | PyData.int i => i | _ => 0) e
    rw [List.map_map, List.map_map] at h
    have f : ∀ l : List Int, l.map ((fun d => match d with | PyData.int i => i | _ => 0) ∘ PyData.int) = l := fun l => List.map_id l
    rwa [f, f] at h
  subst this
  exact ⟨by omega, h3⟩
def S_wh (xs : List PyData) (oc : Oc) : Prop := ∃ z y, xs = [z, y] ∧ (BadH z y oc ∨ ∃ (ms : List Int) (ts : List Th), z = .tuple (ms.map .int) ∧ y = TD ts ∧ areIn z 0 12 0 9 = true ∧ HOk ms.length ts ∧ oc = .ret (.da (TX (hsT ms ts))))
theorem df_write_house (T : Txt P w K mg base TT C) : Df P w K mg base "write_house" 5 ["most", "things"] (spP K TT C "name" S_wh) kb_write_house := by
  refine df_of T.f_write_house fun f fd F => ok_pure F sc_write_house (fun xs oc h => by obtain ⟨_, _, rfl, _⟩ := h; rfl) fun cdv A outer s H E hr xs oc hS => ?_
  obtain ⟨z, y, rfl, hS⟩ := hS
  refine rf_dh T (by walk_at "room") takes_D (ra_cons (by first | exact rv_name 0 | exact rv_slot 0) (ra_cons (by first | exact rv_name 1 | exact rv_slot 1) ra_nil)) (hS.imp (fun h => h) fun h => ?_)
  obtain ⟨ms, ts, rfl, rfl, hz, hk, rfl⟩ := h
  refine ⟨⟨ms, rfl, hz, goodT_ok hk⟩, ?_⟩
  have mk := areIn_ms hz
  have mll := mk.len
  let ρ0 : Option Dt → Option Dt → Option Dt → Rho := fun li th on => [dd (.tuple (ms.map .int)), dd (TD ts), li, th, on]
  have words : ∀ (ns : List Int) (wd : List Nat), (∀ i ∈ ns, 0 ≤ i ∧ i < 1000) → ns.length ≤ 12 → wd.length ≤ 10 → ((wd :: ns.map nm).map (·.length)).sum + (wd :: ns.map nm).length * 1 ≤ 100000 := fun ns wd h1 h2 h3 => by
    have := lnL_sum (w := wd) fun i hi => (h1 i hi).2
    omega
  refine rf_cons (rs_setL 2 (zs := [TX (lnL daysL ms)]) (ρ1 := ρ0 none none none) (rv_lst (xs := [_]) (ra_cons (rv_joinX (rv_strE tl_sp) (rv_bin (rv_lst (xs := [_]) (ra_cons (rv_strE tl_days) ra_nil)) (RC.rv (rc_map (own := [("one", 4)]) (xs := ms.map .int) (ρ1 := ρ0 none none none) stP rfl sc_write_house.nd (iv_eq2 (by first | exact iv_tup (by first | exact rv_name 0 | exact rv_slot 0) | exact iv_list (by first | exact rv_name 0 | exact rv_slot 0) | exact iv_list (rv_settle (by first | exact rv_name 0 | exact rv_slot 0))) rfl rfl) (blkOk_by (N := N_write_house) (sc := defScope s_write_house) (by decide +kernel)) rfl (by rw [List.length_map]; omega) (fun i x hx => ?_))) (ov_catV .li .li (by rw [List.length_map, List.length_map]; show 1 + ms.length ≤ _; omega))) (by rw [stP_map]; exact .li) (words ms daysL (fun i hi => by have := mk.ok i hi; omega) mll (by decide))) ra_nil)) sc_write_house.nd) ?_
  · rw [List.getElem?_map] at hx
    obtain ⟨i', hi', rfl⟩ := Option.map_eq_some_iff.mp hx
    have := mk.ok i' (List.mem_of_getElem? hi')
    refine ⟨ρ0 none none (dd (.int i')), _, fun j hj => hj, fun s H C cl fp => (gv_name 4 sc_write_house.nd), by walk_at "wk", _, fun s H C cl fp => rv_callTy (ra_cons (rv_eqD (rv_name 4) (congrArg PyData.int (show i' = (i'.toNat : Int) by omega))) ra_nil) (cv_strN (by omega)) T.b_str, by walk_at "wk"⟩
  have eL : ∀ i, (hsLs ms ts).take (i + 1) = lnL daysL ms :: (ts.take i).map tlL := fun i => by unfold hsLs; rw [List.take_succ_cons, List.map_take]
  refine rf_cons (rs_eq (rs_for (xs := ts.map tD) (fun i => ρ0 (oo (((hsLs ms ts).take (i + 1)).map TX)) none none) (iv_eq2 (by first | exact iv_tup (by first | exact rv_name 1 | exact rv_slot 1) | exact iv_list (by first | exact rv_name 1 | exact rv_slot 1) | exact iv_list (rv_settle (by first | exact rv_name 1 | exact rv_slot 1))) rfl (by rw [eL]; rfl)) (passes_of rfl) rfl fun i x hx => ?_) (ρ2 := ρ0 (oo ((hsLs ms ts).map TX)) none none) (by rw [List.length_map]; show ρ0 (oo (((hsLs ms ts).take (ts.length + 1)).map TX)) none none = _; rw [show ts.length + 1 = (hsLs ms ts).length by unfold hsLs; rw [List.length_cons, List.length_map], List.take_length])) ?_
  · rw [List.getElem?_map] at hx
    obtain ⟨t, ht, rfl⟩ := Option.map_eq_some_iff.mp hx
    have tk := hk.ok t (List.mem_of_getElem? ht)
    have til := (List.getElem?_eq_some_iff.mp ht).1
    have hts := hk.len
    have tin := tI_lt tk (by omega)
    have en : ((hsLs ms ts).take (i + 1 + 1)).map TX = ((hsLs ms ts).take (i + 1)).map TX ++ [TX (tlL t)] := by
      rw [eL, eL, List.take_add_one, ht]
      simp
    rw [en]
    have ll : (((hsLs ms ts).take (i + 1)).map TX).length ≤ 10 := by
      rw [eL, List.length_map, List.length_cons, List.length_map, List.length_take]
      omega
    generalize ((hsLs ms ts).take (i + 1)).map TX = L at ll
    let ρi : Option Dt → Rho := fun on => ρ0 (oo L) (dd (tD t)) on
    refine ⟨ρi none, _, (gv_name 3 sc_write_house.nd), .inl (rss_weak (rss_one (rs_append (i := 2) (xs := L) (z := TX (tlL t)) (ρ2 := ρi none) (rv_slot 2) (rv_joinX (rv_strE tl_sp) (rv_bin (rv_lst (xs := [_]) (ra_cons (rv_strE tl_thing) ra_nil)) (RC.rv (rc_map (own := [("one", 4)]) (xs := (tI t).map .int) (ρ1 := ρi none) stP rfl sc_write_house.nd (iv_eq2 (by first | exact iv_tup (by first | exact rv_name 3 | exact rv_slot 3) | exact iv_list (by first | exact rv_name 3 | exact rv_slot 3) | exact iv_list (rv_settle (by first | exact rv_name 3 | exact rv_slot 3))) rfl rfl) (blkOk_by (N := N_write_house) (sc := defScope s_write_house) (by decide +kernel)) rfl (by rw [List.length_map]; show 4 ≤ _; decide) (fun i x hx => ?_))) (ov_catV .li .li (by rw [List.length_map, List.length_map]; show 1 + 4 ≤ _; decide))) (by rw [stP_map]; exact .li) (words (tI t) thingL tin (by show 4 ≤ 12; decide) (by decide))) rfl (by omega) ⟨_, rfl⟩)) (by walk_at "wk"))⟩
    rw [List.getElem?_map] at hx
    obtain ⟨i', hi', rfl⟩ := Option.map_eq_some_iff.mp hx
    have := tin i' (List.mem_of_getElem? hi')
    exact ⟨ρi (dd (.int i')), _, fun j hj => hj, fun s H C cl fp => (gv_name 4 sc_write_house.nd), by walk_at "wk", _, fun s H C cl fp => rv_callTy (ra_cons (rv_eqD (rv_name 4) (congrArg PyData.int (show i' = (i'.toNat : Int) by omega))) ra_nil) (cv_strN (by omega)) T.b_str, by walk_at "wk"⟩
  · refine rf_ret (rv_joinX (rv_strE tl_nl) (rv_slot 2) (.sl rfl) ?_)
    have h1 := sum_le (l := hsLs ms ts) (k := 53) fun p hp => by
      rcases List.mem_cons.mp hp with rfl | hp
      · exact lnd_len mll fun i hi => by have := mk.ok i hi; omega
      · obtain ⟨t, ht, rfl⟩ := List.mem_map.mp hp
        have := tlL_len (hk.ok t ht) (by omega)
        omega
    have h2 : (hsLs ms ts).length ≤ 7 := by
      have := hk.len
      unfold hsLs
      rw [List.length_cons, List.length_map]
      omega
    show _ + _ * 1 ≤ 100000
    omega
end
end KX

set_option Elab.async false
set_option linter.all false
set_option maxRecDepth 100000
set_option maxHeartbeats 4000000
namespace KX
open PySem PySem.Spec PyProof.Rows L2 Dn TL
local macro_rules | `(tactic| walk_at "ovAdd") => `(tactic| first | exact ov_add | exact ov_catT (by walk_at "side"))
local macro_rules | `(tactic| walk_at "ovSub") => `(tactic| exact ov_sub)
local macro_rules | `(tactic| walk_at "ovMult") => `(tactic| first | exact ov_mul (by walk_at "side") | exact ov_mulW (by walk_at "side"))
local macro_rules | `(tactic| walk_at "ovMod") => `(tactic| exact ov_mod (by walk_at "side"))
local macro_rules | `(tactic| walk_at "ovFloorDiv") => `(tactic| first | exact ov_fdiv ⟨by omega, by omega⟩ | exact ov_fdivW (by walk_at "side"))
local macro_rules | `(tactic| walk_at "ovPow") => `(tactic| exact ov_pow ⟨by decide, by decide, by decide⟩)
local macro_rules | `(tactic| walk_at "side") => `(tactic| first | omega | assumption | (exact .inl ⟨by omega, by omega⟩) | (exact .inr ⟨by omega, by omega⟩) | decide)
local macro_rules | `(tactic| walk_at "ovLt") => `(tactic| exact ov_lt)
local macro_rules | `(tactic| walk_at "ovLtE") => `(tactic| exact ov_le)
local macro_rules | `(tactic| walk_at "ovGt") => `(tactic| exact ov_gt)
local macro_rules | `(tactic| walk_at "ovGtE") => `(tactic| exact ov_ge)
local macro_rules | `(tactic| walk_at "ovEq") => `(tactic| first | exact ov_eqI | exact ov_eqB)
local macro_rules | `(tactic| walk_at "ovNotEq") => `(tactic| first | exact ov_neI | exact ov_neB)
local macro_rules | `(tactic| walk_at "ovIs") => `(tactic| first | exact ov_isN | exact ov_isB)
local macro_rules | `(tactic| walk_at "ovIsNot") => `(tactic| first | exact ov_notN | exact ov_notB)
local macro_rules | `(tactic| walk_at "vw") => `(tactic| first | exact Vw.dl | exact Vw.dt | exact Vw.li | exact Vw.sl rfl)
local macro_rules | `(tactic| walk_at "dv") => `(tactic| first | exact Dv.da | exact Dv.li | exact Dv.sl rfl)
local macro_rules | `(tactic| walk_at "at") => `(tactic| first | rfl | assumption)
local macro_rules | `(tactic| walk_at "isi") => `(tactic| first | exact kb_int _ | exact kb_bool _ | exact kb_tuple _ | exact kb_str _)
local macro_rules | `(tactic| walk_at "room") => `(tactic| exact Room.mono (by assumption) (by decide))
local macro_rules | `(tactic| walk_at "cvlen") => `(tactic| exact cv_len (by walk_at "vw"))
local macro_rules | `(tactic| walk_at "cvabs") => `(tactic| exact cv_abs)
local macro_rules | `(tactic| walk_at "cvint") => `(tactic| exact cv_int)
local macro_rules | `(tactic| walk_at "cvmax") => `(tactic| exact cv_max2 rfl)
local macro_rules | `(tactic| walk_at "cvmin") => `(tactic| exact cv_min2 rfl)
local macro_rules | `(tactic| walk_at "cvtuple") => `(tactic| exact cv_tuple (by walk_at "vw"))
local macro_rules | `(tactic| walk_at "cvlist") => `(tactic| exact cv_list (by walk_at "vw"))
local macro_rules | `(tactic| walk_at "wk") => `(tactic| repeat (first | exact Wk.nil | refine Wk.same ?_ | refine Wk.drop ?_))
local macro_rules | `(tactic| walk_at "rng") => `(tactic| (refine ⟨?_, ?_⟩ <;> omega))

local macro_rules | `(tactic| walk_at "sp") => `(tactic| first | exact ⟨_, rfl, rfl⟩ | exact ⟨_, _, rfl, rfl⟩ | exact ⟨_, _, _, rfl, rfl⟩ | exact ⟨_, _, _, _, _, by decide, rfl, rfl⟩)
/-! numbers read -/
def digB (c : Nat) : Bool := decide (c ∈ tl (Str.ofString "0123456789"))
theorem tl_dig : tl (Str.ofString "0123456789") = [48, 49, 50, 51, 52, 53, 54, 55, 56, 57] := by decide +kernel
theorem dig_iff {c : Nat} : digB c = true ↔ 48 ≤ c ∧ c ≤ 57 := by
  unfold digB
  rw [tl_dig, decide_eq_true_eq]
  simp only [List.mem_cons, List.not_mem_nil, or_false]
  omega
def numO (w : List Nat) : Option Nat := if (1 ≤ w.length ∧ w.length ≤ 3) ∧ w.all digB = true then (if numL (NumText.digitsVal w) = w then some (NumText.digitsVal w) else none) else none
def optI : Option Nat → PyData
  | none => .none
  | some n => .int (n : Int)
theorem dig_all {w : List Nat} (h : w.all digB = true) : NumText.AllDigits w := fun c hc => dig_iff.mp (List.all_eq_true.mp h c hc)
theorem dig_val {w : List Nat} (h : NumText.AllDigits w) (h1 : 1 ≤ w.length) (h3 : w.length ≤ 3) : NumText.digitsVal w < 1000 := by
  match w, h1, h3 with
  | [a], _, _ =>
    have := h a (by simp)
    show 0 * 10 + (a - 48) < 1000
    omega
  | [a, b], _, _ =>
    have := h a (by simp)
    have := h b (by simp)
    show (0 * 10 + (a - 48)) * 10 + (b - 48) < 1000
    omega
  | [a, b, c], _, _ =>
    have := h a (by simp)
    have := h b (by simp)
    have := h c (by simp)
    show ((0 * 10 + (a - 48)) * 10 + (b - 48)) * 10 + (c - 48) < 1000
    omega
  | _ :: _ :: _ :: _ :: _, _, h3 => simp at h3
theorem numO_lt {w : List Nat} {n : Nat} (h : numO w = some n) : n < 1000 := by
  unfold numO at h
  split at h
  · rename_i hc
    split at h
    · cases h
      exact dig_val (dig_all hc.2) hc.1.1 hc.1.2
    · cases h
  · cases h
/-- what is written is read -/
theorem numO_num {n : Nat} (h : n < 1000) : numO (numL n) = some n := by
  have h1 : (numL n).length ≤ 3 := numL_len (by decide) h
  have h2 : 1 ≤ (numL n).length := List.length_pos_iff.mpr (numL_ne n)
  have h3 : (numL n).all digB = true := List.all_eq_true.mpr fun c hc => dig_iff.mpr (numL_digits n c hc)
  unfold numO
  rw [if_pos ⟨⟨h2, h1⟩, h3⟩, numL_val, if_pos rfl]
theorem rf_settle {X : Cx} {p : Pm} {er : Er} {ρ : Rho} {sts : List Stmt} {oc : Oc} (i : Nat) {zs : List PyData} (hi : ρ[i]? = some (oo zs)) (h : RSf X p er sts (ρ.set i (dd (.list zs))) oc) : RSf X p er sts ρ oc := let ⟨so, h1, h2⟩ := h; ⟨so, rss_settle i hi h1, h2⟩
theorem at0 {α : Type} (x : α) (xs : List α) : atI (x :: xs) 0 = some x := by
  show atI (x :: xs) ((0 : Nat) : Int) = some x
  exact atI_nat rfl
def unX : PyData → List Nat
  | .str z => tl z
  | _ => []
def dgP (x : PyData) : Bool := match unX x with
  | [c] => digB c
  | _ => false
theorem dg_all (w : List Nat) : (w.map fun c => TX [c]).all dgP = w.all digB := by
  rw [List.all_map]
  rfl
/-! cut words -/
theorem spl_ne (s : Nat) : ∀ (acc l : List Nat), spl [s] 0 acc l ≠ []
  | acc, [] => by rw [spl_nil]; simp
  | acc, c :: r => by
    by_cases h : pre [s] (c :: r) = true
    · rw [spl_hit h]; simp
    · rw [spl_miss (by simpa using h)]
      exact spl_ne s _ r
/-- all signs are in the parts -/
theorem spl_sum (s : Nat) : ∀ (acc l : List Nat), ((spl [s] 0 acc l).map (·.length)).sum + (spl [s] 0 acc l).length = acc.length + l.length + 1
  | acc, [] => by rw [spl_nil]; simp
  | acc, c :: r => by
    by_cases h : pre [s] (c :: r) = true
    · rw [spl_hit h]
      show (((acc :: spl [s] 0 [] r).map (·.length)).sum + (acc :: spl [s] 0 [] r).length) = _
      have := spl_sum s [] r
      rw [List.map_cons, List.sum_cons, List.length_cons, List.length_cons]
      have e : ([] : List Nat).length = 0 := rfl
      omega
    · rw [spl_miss (by simpa using h)]
      have := spl_sum s (acc ++ [c]) r
      rw [List.length_append] at this
      have e : ([c] : List Nat).length = 1 := rfl
      rw [List.length_cons]
      omega
theorem mem_sum {l : List (List Nat)} {p : List Nat} (h : p ∈ l) : p.length ≤ (l.map (·.length)).sum := by
  induction l with
  | nil => cases h
  | cons q l ih =>
    rw [List.map_cons, List.sum_cons]
    rcases List.mem_cons.mp h with rfl | h
    · omega
    · have := ih h
      omega
theorem spl_bd (s : Nat) (l : List Nat) : (spl [s] 0 [] l).length ≤ l.length + 1 ∧ ∀ p ∈ spl [s] 0 [] l, p.length ≤ l.length := by
  have h := spl_sum s [] l
  have e : ([] : List Nat).length = 0 := rfl
  have h0 : 1 ≤ (spl [s] 0 [] l).length := List.length_pos_iff.mpr (spl_ne s [] l)
  exact ⟨by omega, fun p hp => by have := mem_sum hp; omega⟩
def allO : List (Option Nat) → Option (List Nat)
  | [] => some []
  | none :: _ => none
  | some a :: r => (allO r).map (a :: ·)
theorem allO_none : ∀ {os : List (Option Nat)}, allO os = none ↔ none ∈ os
  | [] => ⟨fun h => (by cases h), fun h => (by cases h)⟩
  | none :: r => ⟨fun _ => .head _, fun _ => rfl⟩
  | some a :: r => by
    show (allO r).map (a :: ·) = none ↔ _
    rw [Option.map_eq_none_iff, allO_none, List.mem_cons]
    exact ⟨fun h => .inr h, fun h => h.resolve_left fun z => by cases z⟩
theorem allO_some : ∀ {os : List (Option Nat)} {ns : List Nat}, allO os = some ns ↔ os = ns.map some
  | [], ns => ⟨fun h => (by cases h; rfl), fun h => (by cases ns with | nil => rfl | cons _ _ => cases h)⟩
  | none :: r, ns => ⟨fun h => (by cases h), fun h => (by cases ns with | nil => cases h | cons _ _ => cases h)⟩
  | some a :: r, ns => by
    show (allO r).map (a :: ·) = some ns ↔ _
    rw [Option.map_eq_some_iff]
    constructor
    · rintro ⟨m, h1, rfl⟩
      rw [allO_some.mp h1]
      rfl
    · intro h
      cases ns with
      | nil => cases h
      | cons b m =>
        rw [List.map_cons] at h
        injection h with h1 h2
        cases h1
        exact ⟨m, allO_some.mpr h2, rfl⟩
def nbO (l first : List Nat) : Option (List Nat) := if (spl [32] 0 [] l).headD [] = first then allO (((spl [32] 0 [] l).drop 1).map numO) else none
def optT : Option (List Nat) → PyData
  | none => .none
  | some ns => .tuple (natsD ns)
theorem optI_map (ns : List Nat) : (ns.map some).map optI = natsD ns := by
  rw [List.map_map]
  rfl
theorem opts_can : ∀ l : List (Option Nat), PyData.canLayAll0 (l.map optI) = true ∧ PyData.depthAll (l.map optI) = 0
  | [] => ⟨by simp [PyData.canLayAll0], by simp [PyData.depthAll]⟩
  | a :: l => by
    obtain ⟨h1, h2⟩ := opts_can l
    rw [List.map_cons]
    generalize l.map optI = t at h1 h2 ⊢
    cases a with
    | none => exact ⟨by show PyData.canLayAll0 (.none :: t) = true; simp [PyData.canLayAll0, PyData.canLay0, h1], by show PyData.depthAll (.none :: t) = 0; simp [PyData.depthAll, PyData.depth, h2]⟩
    | some k => exact ⟨by show PyData.canLayAll0 (.int (k : Int) :: t) = true; simp [PyData.canLayAll0, PyData.canLay0, h1], by show PyData.depthAll (.int (k : Int) :: t) = 0; simp [PyData.depthAll, PyData.depth, h2]⟩
theorem opts_shaped (l : List (Option Nat)) : SeqAt.shaped (.list (l.map optI)) = true := by
  obtain ⟨h1, h2⟩ := opts_can l
  unfold SeqAt.shaped
  rw [PyData.canLay0, h1, PyData.depth, h2]
  rfl
theorem opts_any (l : List (Option Nat)) : ((l.map optI).any fun z => PyData.eqv z .none) = decide (none ∈ l) := by
  rw [List.any_map, Bool.eq_iff_iff, List.any_eq_true, decide_eq_true_eq]
  constructor
  · rintro ⟨o, ho, h⟩
    cases o with
    | none => exact ho
    | some a =>
      have h : PyData.eqv (.int (a : Int)) .none = true := h
      simp [PyData.eqv] at h
  · intro h
    exact ⟨none, h, by show PyData.eqv .none .none = true; simp [PyData.eqv]⟩
section
variable {P : Program} {w : World} {K : PySem.W.Frag} {mg : Str → Option Value} {base : Heap} {TT : List (Addr × Str)} {C : Addr}
def S_no (xs : List PyData) (oc : Oc) : Prop := ∃ l : List Nat, xs = [TX l] ∧ l.length ≤ 5000 ∧ oc = .ret (.da (optI (numO l)))
theorem df_number_of (T : Txt P w K mg base TT C) : Df P w K mg base "number_of" 1 ["word"] (spP K TT C "name" S_no) := by
  refine df_of T.f_number_of fun f fd F => ok_pure F sc_number_of (fun xs oc h => by obtain ⟨_, rfl, _⟩ := h; rfl) fun cdv A outer s H E hr xs oc hS => ?_
  obtain ⟨l, rfl, hl, rfl⟩ := hS
  have t1 : RT (CxD P w K mg base N_number_of "number_of" s_number_of f cdv A outer s H E) ⟨TT, noφ⟩ (match (defBody s_number_of).getD 0 (.Pass ⟨0, 0, 0, 0⟩) with | .If c _ _ _ => c | _ => .Name "" ⟨0, 0, 0, 0⟩) [dd (TX l), none] (!decide ((1 ≤ l.length ∧ l.length ≤ 3) ∧ l.all digB = true)) [dd (TX l), none] := by
    refine rt_eq (a := (!(decide ((1 : Int) ≤ (l.length : Int)) && decide ((l.length : Int) ≤ 3)) || !l.all digB)) (rt_w (rw_or (rt_not (rt_chainT rv_int (rv_callB (ra_cons (rv_name 0) ra_nil) (cv_lenX (by omega)) T.b_len) ov_le (fun _ => rv_int) (fun _ => ov_le))) fun _ => rw_or1 (rt_not ?_))) ?_
    · rw [← dg_all]
      refine rt_val (rv_callB (ra_cons (rv_map (own := [("sign", 1)]) (xs := l.map fun c => TX [c]) (ρ1 := [dd (TX l), none]) (fun x => .bool (dgP x)) rfl sc_number_of.nd (iv_strX (rv_name 0)) (blkOk_by (N := N_number_of) (sc := defScope s_number_of) (by decide +kernel)) rfl (by rw [List.length_map]; omega) (fun i x hx => ?_)) ra_nil) (cv_allM rfl) T.b_all)
      rw [List.getElem?_map] at hx
      obtain ⟨c, hc, rfl⟩ := Option.map_eq_some_iff.mp hx
      exact ⟨[dd (TX l), dd (TX [c])], _, fun j hj => hj, fun s H C cl fp => (gv_name 1 sc_number_of.nd), by walk_at "wk", _, fun s H C cl fp => rv_cmp (rv_name 1) (rv_gstr T.c_DIGITS) ov_inSign, by walk_at "wk"⟩
    · have e : (decide ((1 : Int) ≤ (l.length : Int)) && decide ((l.length : Int) ≤ 3)) = decide (1 ≤ l.length ∧ l.length ≤ 3) := by
        rw [← Bool.decide_and]
        exact decide_eq_decide.mpr (by omega)
      rw [e]
      by_cases h : 1 ≤ l.length ∧ l.length ≤ 3
      · cases hb : l.all digB <;> simp [h]
      · simp [h]
  by_cases hc : (1 ≤ l.length ∧ l.length ≤ 3) ∧ l.all digB = true
  · rw [decide_eq_true hc] at t1
    have hd := dig_all hc.2
    have hv := dig_val hd hc.1.1 hc.1.2
    have hne : l ≠ [] := fun z => by rw [z] at hc; simp at hc
    have ii : RV (CxD P w K mg base N_number_of "number_of" s_number_of f cdv A outer s H E) ⟨TT, noφ⟩ (match (defBody s_number_of).getD 1 (.Pass ⟨0, 0, 0, 0⟩) with | .Return (some (.IfExp _ a _ _)) _ => a | _ => .Name "" ⟨0, 0, 0, 0⟩) [dd (TX l), none] (.da (.int (NumText.digitsVal l : Nat))) [dd (TX l), none] := rv_callTy (ra_cons (rv_name 0) ra_nil) (cv_intX hd hne (by omega)) T.b_int
    have e : numO l = if numL (NumText.digitsVal l) = l then some (NumText.digitsVal l) else none := if_pos hc
    refine rf_ifF t1 (rf_ret (rv_if (k1 := decide (numL (NumText.digitsVal l) = l)) (ρ1 := [dd (TX l), none]) (ρ2 := [dd (TX l), none]) (rt_cmp (rv_callTy (ra_cons (rv_callTy (ra_cons (rv_name 0) ra_nil) (cv_intX hd hne (by omega)) T.b_int) ra_nil) (cv_strN (by omega)) T.b_str) (rv_name 0) ov_eqX) (fun h => ?_) fun h => ?_)) rfl
    · rw [e, if_pos (of_decide_eq_true h)]
      exact ii
    · rw [e, if_neg (of_decide_eq_false h)]
      exact rv_non
  · rw [decide_eq_false hc] at t1
    have e : numO l = none := if_neg hc
    rw [e]
    exact rf_ifT t1 ⟨_, rss_one (rs_ret rv_non), .da, fun _ h => nomatch h⟩
def noP (x : PyData) : PyData := optI (numO (unX x))
def S_nb (xs : List PyData) (oc : Oc) : Prop := ∃ l first : List Nat, xs = [TX l, TX first] ∧ l.length ≤ 4000 ∧ oc = .ret (.da (optT (nbO l first)))
theorem df_numbers_of (T : Txt P w K mg base TT C) : Df P w K mg base "numbers_of" 2 ["line", "first"] (spP K TT C "name" S_nb) := by
  refine df_of T.f_numbers_of fun f fd F => ok_pure F sc_numbers_of (fun xs oc h => by obtain ⟨_, _, rfl, _⟩ := h; rfl) fun cdv A outer s H E hr xs oc hS => ?_
  obtain ⟨l, first, rfl, hl, rfl⟩ := hS
  have hu5 : (CxD P w K mg base N_numbers_of "numbers_of" s_numbers_of f cdv A outer s H E).A.units + 65 < cLine := by have := hr.un; omega
  have bd := spl_bd 32 l
  have hne := spl_ne 32 [] l
  have enb : nbO l first = if (spl [32] 0 [] l).headD [] = first then allO (((spl [32] 0 [] l).drop 1).map numO) else none := rfl
  rw [enb]
  let ρ0 : Option Dt → Option Dt → Option Dt → Rho := fun ws fo wd => [dd (TX l), dd (TX first), ws, fo, wd]
  refine rf_cons (rs_setL 2 (zs := (spl [32] 0 [] l).map TX) (ρ1 := ρ0 none none none) (rv_splitX (by decide) (rv_name 0) (rv_strE tl_sp) (by omega)) sc_numbers_of.nd) (rf_settle 2 rfl ?_)
  show RSf _ _ _ _ (ρ0 (dd (.list ((spl [32] 0 [] l).map TX))) none none) _
  generalize spl [32] 0 [] l = ws at bd hne
  obtain ⟨w0, r, rfl⟩ : ∃ w0 r, ws = w0 :: r := by
    cases ws with
    | nil => exact absurd rfl hne
    | cons a r => exact ⟨a, r, rfl⟩
  have rl : r.length ≤ l.length := by have := bd.1; rw [List.length_cons] at this; omega
  have rb : ∀ p ∈ r, p.length ≤ l.length := fun p hp => bd.2 p (.tail _ hp)
  let W2 : Option Dt := dd (.list ((w0 :: r).map TX))
  have ef : (r.map TX).map noP = (r.map numO).map optI := by
    rw [List.map_map, List.map_map]
    rfl
  refine rf_cons (rs_setC 3 (zs := (r.map numO).map optI) (ρ1 := ρ0 W2 none none) ?_) (rf_settle 3 rfl ?_)
  · rw [← ef]
    refine rc_map (own := [("word", 4)]) (xs := r.map TX) (ρ1 := ρ0 W2 none none) noP rfl sc_numbers_of.nd (iv_eq2 (iv_list (rv_settle (rv_cutL (rv_name 2) (ro_some rv_int) ro_none .dl))) (cutA_drop ((w0 :: r).map TX) 1) rfl) (blkOk_by (N := N_numbers_of) (sc := defScope s_numbers_of) (by decide +kernel)) rfl (by rw [List.length_map]; omega) (fun i x hx => ?_)
    rw [List.getElem?_map] at hx
    obtain ⟨p, hp, rfl⟩ := Option.map_eq_some_iff.mp hx
    have := rb p (List.mem_of_getElem? hp)
    exact ⟨ρ0 W2 none (dd (TX p)), _, fun j hj => hj, fun s H C cl fp => (gv_name 4 sc_numbers_of.nd), by walk_at "wk", _, fun s H C cl fp => rv_call (xs := [_]) (df_number_of T) (by walk_at "room") (ra_cons (by first | exact rv_name 4 | exact rv_slot 4) ra_nil) ⟨p, rfl, by omega, rfl⟩, by walk_at "wk"⟩
  let ρ3 : Rho := ρ0 W2 (dd (.list ((r.map numO).map optI))) none
  refine rf_ret (rv_if (k1 := (!decide (w0 = first) || decide (none ∈ r.map numO))) (ρ1 := ρ3) (ρ2 := ρ3) (rt_w (rw_or (rt_cmp (rv_at (xs := (w0 :: r).map TX) (rv_name 2) rv_int .dl (at0 _ _)) (rv_name 1) ov_neX) fun _ => rw_or1 (rt_eq (rt_cmp rv_non (rv_name 3) (ov_in hu5 .da .da rfl (opts_shaped _))) (opts_any _)))) (fun h => ?_) fun h => ?_)
  · have e : (if (w0 :: r).headD [] = first then allO (((w0 :: r).drop 1).map numO) else none) = none := by
      show (if w0 = first then allO (r.map numO) else none) = none
      by_cases h0 : w0 = first
      · rw [if_pos h0]
        rw [decide_eq_true h0, Bool.not_true, Bool.false_or, decide_eq_true_eq] at h
        exact allO_none.mpr h
      · exact if_neg h0
    rw [e]
    exact rv_non
  · rw [Bool.or_eq_false_iff, Bool.not_eq_false', decide_eq_true_eq, decide_eq_false_iff_not] at h
    obtain ⟨ns, hns⟩ : ∃ ns, allO (r.map numO) = some ns := by
      cases e : allO (r.map numO) with
      | none => exact absurd (allO_none.mp e) h.2
      | some ns => exact ⟨ns, rfl⟩
    have e : (if (w0 :: r).headD [] = first then allO (((w0 :: r).drop 1).map numO) else none) = some ns := by
      show (if w0 = first then allO (r.map numO) else none) = some ns
      rw [if_pos h.1, hns]
    rw [e]
    have e2 : (r.map numO).map optI = natsD ns := by rw [allO_some.mp hns, optI_map]
    show RV _ _ _ ρ3 (.da (.tuple (natsD ns))) ρ3
    rw [← e2]
    exact rv_callTy (ra_cons (rv_name 3) ra_nil) (cv_tuple .dl) T.b_tuple
end
end KX

set_option Elab.async false
set_option linter.all false
set_option maxRecDepth 100000
set_option maxHeartbeats 4000000
namespace KX
open PySem PySem.Spec PyProof.Rows L2 Dn TL
local macro_rules | `(tactic| walk_at "ovAdd") => `(tactic| first | exact ov_add | exact ov_catT (by walk_at "side"))
local macro_rules | `(tactic| walk_at "ovSub") => `(tactic| exact ov_sub)
local macro_rules | `(tactic| walk_at "ovMult") => `(tactic| first | exact ov_mul (by walk_at "side") | exact ov_mulW (by walk_at "side"))
local macro_rules | `(tactic| walk_at "ovMod") => `(tactic| exact ov_mod (by walk_at "side"))
local macro_rules | `(tactic| walk_at "ovFloorDiv") => `(tactic| first | exact ov_fdiv ⟨by omega, by omega⟩ | exact ov_fdivW (by walk_at "side"))
local macro_rules | `(tactic| walk_at "ovPow") => `(tactic| exact ov_pow ⟨by decide, by decide, by decide⟩)
local macro_rules | `(tactic| walk_at "side") => `(tactic| first | omega | assumption | (exact .inl ⟨by omega, by omega⟩) | (exact .inr ⟨by omega, by omega⟩) | decide)
local macro_rules | `(tactic| walk_at "ovLt") => `(tactic| exact ov_lt)
local macro_rules | `(tactic| walk_at "ovLtE") => `(tactic| exact ov_le)
local macro_rules | `(tactic| walk_at "ovGt") => `(tactic| exact ov_gt)
local macro_rules | `(tactic| walk_at "ovGtE") => `(tactic| exact ov_ge)
local macro_rules | `(tactic| walk_at "ovEq") => `(tactic| first | exact ov_eqI | exact ov_eqB)
local macro_rules | `(tactic| walk_at "ovNotEq") => `(tactic| first | exact ov_neI | exact ov_neB)
local macro_rules | `(tactic| walk_at "ovIs") => `(tactic| first | exact ov_isN | exact ov_isB)
local macro_rules | `(tactic| walk_at "ovIsNot") => `(tactic| first | exact ov_notN | exact ov_notB)
local macro_rules | `(tactic| walk_at "vw") => `(tactic| first | exact Vw.dl | exact Vw.dt | exact Vw.li | exact Vw.sl rfl)
local macro_rules | `(tactic| walk_at "dv") => `(tactic| first | exact Dv.da | exact Dv.li | exact Dv.sl rfl)
local macro_rules | `(tactic| walk_at "at") => `(tactic| first | rfl | assumption)
local macro_rules | `(tactic| walk_at "isi") => `(tactic| first | exact kb_int _ | exact kb_bool _ | exact kb_tuple _ | exact kb_str _)
local macro_rules | `(tactic| walk_at "room") => `(tactic| exact Room.mono (by assumption) (by decide))
local macro_rules | `(tactic| walk_at "cvlen") => `(tactic| exact cv_len (by walk_at "vw"))
local macro_rules | `(tactic| walk_at "cvabs") => `(tactic| exact cv_abs)
local macro_rules | `(tactic| walk_at "cvint") => `(tactic| exact cv_int)
local macro_rules | `(tactic| walk_at "cvmax") => `(tactic| exact cv_max2 rfl)
local macro_rules | `(tactic| walk_at "cvmin") => `(tactic| exact cv_min2 rfl)
local macro_rules | `(tactic| walk_at "cvtuple") => `(tactic| exact cv_tuple (by walk_at "vw"))
local macro_rules | `(tactic| walk_at "cvlist") => `(tactic| exact cv_list (by walk_at "vw"))
local macro_rules | `(tactic| walk_at "wk") => `(tactic| repeat (first | exact Wk.nil | refine Wk.same ?_ | refine Wk.drop ?_))
local macro_rules | `(tactic| walk_at "rng") => `(tactic| (refine ⟨?_, ?_⟩ <;> omega))

local macro_rules | `(tactic| walk_at "sp") => `(tactic| first | exact ⟨_, rfl, rfl⟩ | exact ⟨_, _, rfl, rfl⟩ | exact ⟨_, _, _, rfl, rfl⟩ | exact ⟨_, _, _, _, _, by decide, rfl, rfl⟩)
theorem enum_at {xs : List PyData} {i : Nat} {x : PyData} (h : (enumD xs)[i]? = some x) : ∃ y, xs[i]? = some y ∧ x = .tuple [.int (i : Int), y] := by
  unfold enumD at h
  rw [List.getElem?_mapIdx] at h
  obtain ⟨y, h1, h2⟩ := Option.map_eq_some_iff.mp h
  exact ⟨y, h1, h2.symm⟩
theorem take_snoc {α : Type} {xs : List α} {i : Nat} {x : α} (h : xs[i]? = some x) : xs.take (i + 1) = xs.take i ++ [x] ∧ (xs.take i).length = i := by
  have hl := (List.getElem?_eq_some_iff.mp h).1
  rw [List.take_succ, h]
  exact ⟨rfl, by rw [List.length_take]; omega⟩

theorem enum_get {xs : List PyData} {i : Nat} {x : PyData} (h : xs[i]? = some x) : (enumD xs)[i]? = some (.tuple [.int (i : Int), x]) := by
  have hl := (List.getElem?_eq_some_iff.mp h).1
  have h2 := List.getElem?_eq_getElem (l := enumD xs) (i := i) (by rw [enumD_len]; exact hl)
  obtain ⟨y, hy, e⟩ := enum_at h2
  rw [h] at hy
  cases hy
  rw [h2, e]
/-! a house read -/
def badL (n i : Nat) (line : List Nat) : Bool := match nbO line thingL with
  | none => true
  | some t => !isThing (n : Int) (.tuple (natsD t)) || decide (i = 6)
def thO (line : List Nat) : List Nat := (nbO line thingL).getD []
def fstBad (n : Nat) (ls : List (List Nat)) : Option Nat := (List.range ls.length).find? fun i => badL n i (ls.getD i [])
def okM (ms : List Nat) : Bool := areIn (.tuple (natsD ms)) 0 12 0 9
def rdO (l : List Nat) : Nat ⊕ (List Nat × List (List Nat)) := match nbO ((spl [10] 0 [] l).headD []) daysL with
  | none => .inl 1
  | some ms => if okM ms = true then (match fstBad ms.length ((spl [10] 0 [] l).drop 1) with
    | some i => .inl (i + 2)
    | none => .inr (ms, ((spl [10] 0 [] l).drop 1).map thO)) else .inl 1
def CL (l : List (List Nat)) : List PyData := l.map fun p => .tuple (natsD p)
theorem CL_len (l : List (List Nat)) : (CL l).length = l.length := by unfold CL; rw [List.length_map]
theorem CL_app (a b : List (List Nat)) : CL (a ++ b) = CL a ++ CL b := by unfold CL; rw [List.map_append]
theorem CL_get {l : List (List Nat)} {i : Nat} {x : PyData} (h : (CL l)[i]? = some x) : ∃ p, l[i]? = some p ∧ x = .tuple (natsD p) := by
  unfold CL at h
  rw [List.getElem?_map] at h
  obtain ⟨p, h1, h2⟩ := Option.map_eq_some_iff.mp h
  exact ⟨p, h1, h2.symm⟩
theorem noL_nats : ∀ l : List Nat, noLs (natsD l) = true
  | [] => by show noLs [] = true; rw [noLs]
  | n :: l => by show noLs (.int (n : Int) :: natsD l) = true; rw [noLs, noL_nats l, noL]; rfl
theorem noL_CL : ∀ l : List (List Nat), noLs (CL l) = true
  | [] => by show noLs [] = true; rw [noLs]
  | p :: l => by show noLs (.tuple (natsD p) :: CL l) = true; rw [noLs, noL_CL l, noL, noL_nats]; rfl
def optD : Option (List Nat) → PyData
  | none => .none
  | some l => .tuple (natsD l)
def lastN (l : List Nat) : Nat := l.getLastD 0
theorem lastN_snoc (l : List Nat) (a : Nat) : lastN (l ++ [a]) = a := by unfold lastN; simp
theorem at_last {l : List Nat} (h : l ≠ []) : atI (natsD l) (-1) = some (.int (lastN l : Int)) := by
  obtain ⟨p, a, rfl⟩ : ∃ p a, l = p ++ [a] := ⟨l.dropLast, l.getLast h, (List.dropLast_concat_getLast h).symm⟩
  rw [lastN_snoc]
  unfold atI ixN natsD
  rw [List.length_map, List.length_append, List.map_append]
  have h1 : ¬ (0 ≤ (-1 : Int)) := by omega
  simp
  rw [if_pos (by omega)]
  show (List.map (fun i : Nat => PyData.int (i : Int)) p ++ [PyData.int (a : Int)])[(-1 + ((p.length : Int) + 1)).toNat]? = _
  rw [show (-1 + ((p.length : Int) + 1)).toNat = p.length by omega, List.getElem?_append_right (by rw [List.length_map]; exact Nat.le_refl _), List.length_map, Nat.sub_self]
  rfl

def rdD : Nat ⊕ (List Nat × List (List Nat)) → PyData
  | .inl k => .int (k : Int)
  | .inr r => .tuple [.tuple (natsD r.1), .tuple (CL r.2)]
def rdC : Nat ⊕ (List Nat × List (List Nat)) → Oc
  | .inl k => .err (.i (k : Int))
  | .inr r => .ret (.da (rdD (.inr r)))
theorem badL_some {n i : Nat} {line : List Nat} (h : badL n i line = false) : ∃ t, nbO line thingL = some t ∧ thO line = t ∧ isThing (n : Int) (.tuple (natsD t)) = true ∧ i ≠ 6 := by
  unfold badL at h
  unfold thO
  cases e : nbO line thingL with
  | none => rw [e] at h; cases h
  | some t =>
    rw [e] at h
    have h : (!isThing (n : Int) (.tuple (natsD t)) || decide (i = 6)) = false := h
    rw [Bool.or_eq_false_iff, Bool.not_eq_false', decide_eq_false_iff_not] at h
    exact ⟨t, rfl, rfl, h.1, h.2⟩
section
variable {P : Program} {w : World} {K : PySem.W.Frag} {mg : Str → Option Value} {base : Heap} {TT : List (Addr × Str)} {C : Addr}
theorem rd_all (T : Txt P w K mg base TT C) {C0 : Addr} {fl0 : Str} {f : Addr} {cdv : Value} {A : Around} {outer : List Env} {s : Shared} {H : Hp} {E : XK} (hr : Room 4 (CxD P w K mg base N_read_house "read_house" s_read_house f cdv A outer s H E).A) {l : List Nat} (hl : l.length ≤ 2000) (hE : ∀ k, rdO l = .inl k → ErT P K mg "BadText" C0 fl0) :
    RSf (CxD P w K mg base N_read_house "read_house" s_read_house f cdv A outer s H E) ⟨TT, noφ⟩ ⟨C0, fl0, E⟩ ((defBody s_read_house).drop 1) (startR N_read_house [TX l]) (rdC (rdO l)) := by
  have bd := spl_bd 10 l
  have hne := spl_ne 10 [] l
  let ρ0 : Option Dt → Option Dt → Option Dt → Option Dt → Option Dt → Option Dt → Rho := fun ls mo th at' li tg => [dd (TX l), ls, mo, th, at', li, tg]
  refine rf_cons (rs_setL 1 (zs := (spl [10] 0 [] l).map TX) (ρ1 := ρ0 none none none none none none) (rv_splitX (by decide) (rv_name 0) (rv_strE tl_nl) (by omega)) sc_read_house.nd) (rf_settle 1 rfl ?_)
  show RSf _ _ _ _ (ρ0 (dd (.list ((spl [10] 0 [] l).map TX))) none none none none none) _
  have eR : rdO l = match nbO ((spl [10] 0 [] l).headD []) daysL with
    | none => .inl 1
    | some ms => if okM ms = true then (match fstBad ms.length ((spl [10] 0 [] l).drop 1) with
      | some i => .inl (i + 2)
      | none => .inr (ms, ((spl [10] 0 [] l).drop 1).map thO)) else .inl 1 := rfl
  generalize spl [10] 0 [] l = ls at bd hne eR
  obtain ⟨l0, r, rfl⟩ : ∃ l0 r, ls = l0 :: r := by
    cases ls with
    | nil => exact absurd rfl hne
    | cons a r => exact ⟨a, r, rfl⟩
  have l0l : l0.length ≤ 2000 := Nat.le_trans (bd.2 l0 (.head _)) hl
  have rl : r.length ≤ 2000 := by have := bd.1; rw [List.length_cons] at this; omega
  have rb : ∀ p ∈ r, p.length ≤ 2000 := fun p hp => Nat.le_trans (bd.2 p (.tail _ hp)) hl
  let L1 : Option Dt := dd (.list ((l0 :: r).map TX))
  have eR : rdO l = match nbO l0 daysL with
    | none => .inl 1
    | some ms => if okM ms = true then (match fstBad ms.length r with
      | some i => .inl (i + 2)
      | none => .inr (ms, r.map thO)) else .inl 1 := eR
  refine rf_cons (rs_set 2 (z := optT (nbO l0 daysL)) (ρ1 := ρ0 L1 none none none none none) (rv_call (xs := [_, _]) (df_numbers_of T) (by walk_at "room") (ra_cons (rv_at (xs := (l0 :: r).map TX) (rv_name 1) rv_int .dl (at0 _ _)) (ra_cons (rv_strE tl_days) ra_nil)) ⟨l0, daysL, rfl, by omega, rfl⟩) sc_read_house.nd) ?_
  have raise1 : rdO l = .inl 1 → RS (CxD P w K mg base N_read_house "read_house" s_read_house f cdv A outer s H E) ⟨TT, noφ⟩ ⟨C0, fl0, E⟩ (match (defBody s_read_house).getD 3 (.Pass ⟨0, 0, 0, 0⟩) with | .If _ b _ _ => b.getD 0 (.Pass ⟨0, 0, 0, 0⟩) | s => s) (ρ0 L1 (dd (optT (nbO l0 daysL))) none none none none) (.er (.i ((1 : Nat) : Int))) := fun h =>
    rs_raiseI (k := 0) (er := ⟨C0, fl0, E⟩) (hE 1 h) (Room.mono hr (by decide)) takes_D (ra_cons rv_int ra_nil)
  cases hm : nbO l0 daysL with
  | none =>
    rw [hm] at eR
    have eR : rdO l = .inl 1 := eR
    have ra := raise1 eR
    rw [hm] at ra
    rw [eR]
    exact rf_ifT (ρ1 := ρ0 L1 (dd .none) none none none none) (rt_eq (a := (true || false)) (rt_w (rw_or (k1 := true) (k2 := false) (rt_cmp (by first | exact rv_name 2 | exact rv_slot 2) rv_non (by walk_at "ovIs")) fun z => by cases z)) rfl) ⟨_, rss_stop ra (fun _ z => nomatch z), .er, fun _ h => nomatch h⟩
  | some ms =>
    rw [hm] at eR
    have tb : RT (CxD P w K mg base N_read_house "read_house" s_read_house f cdv A outer s H E) ⟨TT, noφ⟩ (match (defBody s_read_house).getD 3 (.Pass ⟨0, 0, 0, 0⟩) with | .If c _ _ _ => c | _ => .Name "" ⟨0, 0, 0, 0⟩) (ρ0 L1 (dd (.tuple (natsD ms))) none none none none) (!okM ms) (ρ0 L1 (dd (.tuple (natsD ms))) none none none none) :=
      rt_eq (a := (false || !okM ms)) (rt_w (rw_or (k1 := false) (rt_cmp (by first | exact rv_name 2 | exact rv_slot 2) rv_non (by walk_at "ovIs")) fun _ => rw_or1 (rt_not (rt_val (rv_call (xs := [_, _, _, _, _]) (df_are_in T) (by walk_at "room") (ra_cons (by first | exact rv_name 2 | exact rv_slot 2) (ra_cons rv_int (ra_cons rv_int (ra_cons rv_int (ra_cons rv_int ra_nil))))) (by walk_at "sp")))))) (by rw [Bool.false_or])
    cases ho : okM ms with
    | false =>
      have eR : rdO l = .inl 1 := by rw [eR]; show (if okM ms = true then _ else _) = _; rw [ho]; rfl
      have ra := raise1 eR
      rw [hm] at ra
      rw [ho] at tb
      rw [eR]
      exact rf_ifT tb ⟨_, rss_stop ra (fun _ z => nomatch z), .er, fun _ h => nomatch h⟩
    | true =>
      have eR : rdO l = match fstBad ms.length r with
        | some i => .inl (i + 2)
        | none => .inr (ms, r.map thO) := by rw [eR]; show (if okM ms = true then _ else _) = _; rw [ho, if_pos rfl]
      rw [ho] at tb
      refine rf_ifF tb ?_ rfl
      let M2 : Option Dt := dd (.tuple (natsD ms))
      refine rf_cons (rs_setL 3 (zs := []) (ρ1 := ρ0 L1 M2 none none none none) (rv_lst (xs := []) ra_nil) sc_read_house.nd) ?_
      let inv : Nat → Rho := fun i => ρ0 L1 M2 (oo (CL ((r.map thO).take i))) none none none
      have ivx : IV (CxD P w K mg base N_read_house "read_house" s_read_house f cdv A outer s H E) ⟨TT, noφ⟩ (match (defBody s_read_house).getD 5 (.Pass ⟨0, 0, 0, 0⟩) with | .For t _ _ _ _ => t | _ => .Name "" ⟨0, 0, 0, 0⟩) (match (defBody s_read_house).getD 5 (.Pass ⟨0, 0, 0, 0⟩) with | .For _ i _ _ _ => i | _ => .Name "" ⟨0, 0, 0, 0⟩) (inv 0) (enumD (r.map TX)) (inv 0) :=
        iv_eq2 (iv_e .l T.b_enumerate (ra_cons (rv_settle (rv_cutL (rv_name 1) (ro_some rv_int) ro_none .dl)) ra_nil)) (by rw [show cutA ((l0 :: r).map TX) (some 1) none = r.map TX from cutA_drop ((l0 :: r).map TX) 1]) rfl
      have turn : ∀ (i : Nat) (line : List Nat), r[i]? = some line → (badL ms.length i line = true → rdO l = .inl (i + 2)) → i ≤ 6 → ∃ so', RSs (CxD P w K mg base N_read_house "read_house" s_read_house f cdv A outer s H E) ⟨TT, noφ⟩ ⟨C0, fl0, E⟩ (loopOf ((defBody s_read_house).getD 5 (.Pass ⟨0, 0, 0, 0⟩))) (ρ0 L1 M2 (oo (CL ((r.map thO).take i))) (dd (.int (i : Int))) (dd (TX line)) none) so' ∧
          ((badL ms.length i line = false ∧ so' = .nx (inv (i + 1))) ∨ (badL ms.length i line = true ∧ so' = .er (.i ((i + 2 : Nat) : Int)))) := by
        intro i line hline hbad hi6
        have lb := rb line (List.mem_of_getElem? hline)
        have til := (List.getElem?_eq_some_iff.mp hline).1
        have cl : (CL ((r.map thO).take i)).length = i := by rw [CL_len, List.length_take, List.length_map]; omega
        have en : CL ((r.map thO).take (i + 1)) = CL ((r.map thO).take i) ++ [.tuple (natsD (thO line))] := by
          rw [List.take_add_one, List.getElem?_map, hline, CL_app]
          rfl
        let ρi : Option Dt → Rho := fun tg => ρ0 L1 M2 (oo (CL ((r.map thO).take i))) (dd (.int (i : Int))) (dd (TX line)) tg
        have s1 : RS (CxD P w K mg base N_read_house "read_house" s_read_house f cdv A outer s H E) ⟨TT, noφ⟩ ⟨C0, fl0, E⟩ ((loopOf ((defBody s_read_house).getD 5 (.Pass ⟨0, 0, 0, 0⟩))).getD 0 (.Pass ⟨0, 0, 0, 0⟩)) (ρi none) (.nx (ρi (dd (optT (nbO line thingL))))) :=
          rs_set 6 (z := optT (nbO line thingL)) (ρ1 := ρi none) (rv_call (xs := [_, _]) (df_numbers_of T) (by walk_at "room") (ra_cons (rv_name 5) (ra_cons (rv_strE tl_thing) ra_nil)) ⟨line, thingL, rfl, by omega, rfl⟩) sc_read_house.nd
        have t2 : RT (CxD P w K mg base N_read_house "read_house" s_read_house f cdv A outer s H E) ⟨TT, noφ⟩ (match (loopOf ((defBody s_read_house).getD 5 (.Pass ⟨0, 0, 0, 0⟩))).getD 1 (.Pass ⟨0, 0, 0, 0⟩) with | .If c _ _ _ => c | _ => .Name "" ⟨0, 0, 0, 0⟩) (ρi (dd (optT (nbO line thingL)))) (badL ms.length i line) (ρi (dd (optT (nbO line thingL)))) := by
          unfold badL
          cases nbO line thingL with
          | none => exact rt_eq (a := (true || false)) (rt_w (rw_or (k1 := true) (k2 := false) (rt_cmp (by first | exact rv_name 6 | exact rv_slot 6) rv_non (by walk_at "ovIs")) fun z => by cases z)) rfl
          | some t =>
            refine rt_eq (a := (false || (!isThing (ms.length : Int) (.tuple (natsD t)) || decide ((i : Int) = 6)))) (rt_w (rw_or (k1 := false) (rt_cmp (by first | exact rv_name 6 | exact rv_slot 6) rv_non (by walk_at "ovIs")) fun _ => rw_or (rt_not (rt_val (rv_call (xs := [_, _]) (df_is_thing T) (by walk_at "room") (ra_cons (rv_name 6) (ra_cons (rv_eqD (rv_callB (ra_cons (by first | exact rv_name 2 | exact rv_slot 2) ra_nil) (by walk_at "cvlen") T.b_len) (by rw [natsD_len])) ra_nil)) ⟨_, _, rfl, rfl⟩))) fun _ => rw_or1 (rt_cmp (rv_eqD (rv_callB (ra_cons (rv_slot 3) ra_nil) (cv_len (.sl rfl)) T.b_len) (congrArg (fun k : Nat => PyData.int (k : Int)) cl)) (rv_gint T.c_MOST_THINGS) ov_eqI))) ?_
            rw [Bool.false_or]
            congr 1
            exact decide_eq_decide.mpr (by omega)
        cases hb : badL ms.length i line with
        | false =>
          obtain ⟨t, ht, ht2, _, hi⟩ := badL_some hb
          rw [hb] at t2
          refine ⟨_, rss_weak (rss_cons s1 (rss_cons (rs_if t2 (fun z => by cases z) fun _ => rss_nil) (rss_one (rs_append (i := 3) (xs := CL ((r.map thO).take i)) (z := .tuple (natsD (thO line))) (ρ2 := ρi (dd (optT (nbO line thingL)))) (rv_slot 3) (rv_eqD (rv_name 6) (by rw [ht, ht2]; rfl)) rfl (by omega) ⟨_, rfl⟩)))) (show Wk _ (inv (i + 1)) from ?_), .inl ⟨rfl, rfl⟩⟩
          show Wk _ (ρ0 L1 M2 (oo (CL ((r.map thO).take (i + 1)))) none none none)
          rw [en]
          walk_at "wk"
        | true =>
          rw [hb] at t2
          refine ⟨_, rss_cons s1 (rss_stop (rs_if t2 (fun _ => rss_stop (rs_raiseI (k := 0) (er := ⟨C0, fl0, E⟩) (hE (i + 2) (hbad hb)) (Room.mono hr (by decide)) takes_D (ra_cons (rv_eqD (rv_bin (by first | exact rv_name 4 | exact rv_slot 4) rv_int (by walk_at "ovAdd")) (show PyData.int ((i : Int) + 2) = .int ((i + 2 : Nat) : Int) by rw [Int.natCast_add]; rfl)) ra_nil)) (fun _ z => nomatch z)) fun z => by cases z) (fun _ z => nomatch z)), .inr ⟨rfl, rfl⟩⟩
      cases hf : fstBad ms.length r with
      | none =>
        rw [hf] at eR
        have eR : rdO l = .inr (ms, r.map thO) := eR
        have hgood : ∀ (i : Nat) (line : List Nat), r[i]? = some line → badL ms.length i line = false := fun i line h => by
          have := find_none_lt hf i (List.getElem?_eq_some_iff.mp h).1
          rwa [List.getD_eq_getElem?_getD, h] at this
        have l6 : r.length ≤ 6 := by
          refine Classical.byContradiction fun z => ?_
          have h := List.getElem?_eq_getElem (show 6 < r.length by omega)
          exact (badL_some (hgood 6 _ h)).choose_spec.2.2.2 rfl
        rw [eR]
        refine rf_cons (rs_eq (rs_for (xs := enumD (r.map TX)) inv ivx (passes_of rfl) rfl fun i x hx => ?_) (ρ2 := ρ0 L1 M2 (oo (CL (r.map thO))) none none none) (by rw [enumD_len, List.length_map]; show ρ0 L1 M2 (oo (CL ((r.map thO).take r.length))) none none none = _; rw [show r.length = (r.map thO).length by rw [List.length_map], List.take_length])) ?_
        · obtain ⟨y, hy, rfl⟩ := enum_at hx
          rw [List.getElem?_map] at hy
          obtain ⟨line, hline, rfl⟩ := Option.map_eq_some_iff.mp hy
          have hb := hgood i line hline
          obtain ⟨so', h1, h2⟩ := turn i line hline (fun z => by rw [hb] at z; cases z) (by have := (List.getElem?_eq_some_iff.mp hline).1; omega)
          rcases h2 with ⟨_, rfl⟩ | ⟨z, _⟩
          · exact ⟨_, _, (gv_tup rfl (gvs_cons (tgs := []) (gv_name 4 sc_read_house.nd) (gvs_cons (tgs := []) (gv_name 5 sc_read_house.nd) gvs_nil))), .inl h1⟩
          · rw [hb] at z; cases z
        · exact rf_ret (rv_tup (xs := [_, _]) (ra_cons (rv_name 2) (ra_cons (rv_callTy (ra_cons (rv_slot 3) ra_nil) (cv_tuple (.sl rfl)) T.b_tuple) ra_nil)))
      | some k =>
        rw [hf] at eR
        have eR : rdO l = .inl (k + 2) := eR
        obtain ⟨hk, hkb, hbef⟩ := find_some_lt hf
        have hline := List.getElem?_eq_getElem hk
        rw [List.getD_eq_getElem?_getD, hline] at hkb
        have hkb : badL ms.length k r[k] = true := hkb
        have hgood : ∀ (i : Nat) (line : List Nat), i < k → r[i]? = some line → badL ms.length i line = false := fun i line hi h => by
          have := hbef i hi
          rwa [List.getD_eq_getElem?_getD, h] at this
        have k6 : k ≤ 6 := by
          refine Classical.byContradiction fun z => ?_
          have h := List.getElem?_eq_getElem (show 6 < r.length by omega)
          exact (badL_some (hgood 6 _ (by omega) h)).choose_spec.2.2.2 rfl
        rw [eR]
        obtain ⟨so', h1, h2⟩ := turn k _ hline (fun _ => eR) k6
        rcases h2 with ⟨z, _⟩ | ⟨_, rfl⟩
        · rw [hkb] at z; cases z
        · have hx : (enumD (r.map TX))[k]? = some (.tuple [.int (k : Int), TX r[k]]) := by
            exact enum_get (by rw [List.getElem?_map, hline]; rfl)
          refine ⟨_, rss_stop (rs_forX (so := .er (.i ((k + 2 : Nat) : Int))) k inv ivx (passes_of rfl) rfl (fun i x hi hx => ?_) (.inr ⟨_, hx, _, _, _, (gv_tup rfl (gvs_cons (tgs := []) (gv_name 4 sc_read_house.nd) (gvs_cons (tgs := []) (gv_name 5 sc_read_house.nd) gvs_nil))), h1, .er⟩)), .er⟩
          obtain ⟨y, hy, rfl⟩ := enum_at hx
          rw [List.getElem?_map] at hy
          obtain ⟨line, hline, rfl⟩ := Option.map_eq_some_iff.mp hy
          have hb := hgood i line hi hline
          obtain ⟨so', h1, h2⟩ := turn i line hline (fun z => by rw [hb] at z; cases z) (by omega)
          rcases h2 with ⟨_, rfl⟩ | ⟨z, _⟩
          · exact ⟨_, _, (gv_tup rfl (gvs_cons (tgs := []) (gv_name 4 sc_read_house.nd) (gvs_cons (tgs := []) (gv_name 5 sc_read_house.nd) gvs_nil))), .inl h1⟩
          · rw [hb] at z; cases z
def S_rh (xs : List PyData) (oc : Oc) : Prop := ∃ z, xs = [z] ∧ (((∀ l, z = TX l → 2000 < l.length) ∧ (∀ l, z = TX l → l.length ≤ 5000) ∧ oc = .err "text") ∨ ∃ l r, z = TX l ∧ l.length ≤ 2000 ∧ rdO l = .inr r ∧ oc = .ret (.da (rdD (.inr r))))
def S_rhB (xs : List PyData) (oc : Oc) : Prop := ∃ l k, xs = [TX l] ∧ l.length ≤ 2000 ∧ rdO l = .inl k ∧ oc = .err (.i (k : Int))
abbrev CT (K : PySem.W.Frag) : Addr := He.ga K "BadText"
def txB : PyData → Bool
  | .str x => decide (x.length ≤ 2000)
  | _ => false
theorem txt_dem (T : Txt P w K mg base TT C) {f : Addr} {cdv : Value} {A : Around} {outer : List Env} {s : Shared} {H : Hp} {E : XK} (z : PyData) (hz : ∀ l, z = TX l → l.length ≤ 5000) :
    RV (CxD P w K mg base N_read_house "read_house" s_read_house f cdv A outer s H E) ⟨TT, noφ⟩ (match (defBody s_read_house).getD 0 (.Pass ⟨0, 0, 0, 0⟩) with | .Expr (.Call _ (a :: _) _ _) _ => a | _ => .Name "" ⟨0, 0, 0, 0⟩) (startR N_read_house [z]) (.da (.bool (txB z))) (startR N_read_house [z]) := by
  cases z with
  | str x =>
    have e : PyData.str x = TX (tl x) := by unfold TX; rw [tx_tl]
    have hx := hz (tl x) e
    refine rv_eqD (rv_and (k1 := true) (k2 := decide (((tl x).length : Int) ≤ 2000)) (rv_isi (T0 := "str") (by first | exact rv_name 0 | exact rv_slot 0) (by walk_at "dv") (kb_str _) T.b_isinstance T.b_str) fun _ => rv_and1 (rv_cmp (rv_callB (ra_cons (rv_eqD (rv_name 0) e) ra_nil) (cv_lenX (by omega)) T.b_len) (rv_gint T.c_MOST_TEXT) ov_le)) ?_
    show PyData.bool (true && _) = .bool (decide (x.length ≤ 2000))
    rw [Bool.true_and, len_tl]
    exact congrArg PyData.bool (decide_eq_decide.mpr (by omega))
  | _ => exact rv_eqD (rv_and (k1 := false) (k2 := false) (rv_isi (T0 := "str") (by first | exact rv_name 0 | exact rv_slot 0) (by walk_at "dv") (kb_str _) T.b_isinstance T.b_str) fun h => by cases h) rfl
theorem df_read_house (T : Txt P w K mg base TT C) : Df P w K mg base "read_house" 5 ["text"] (spP K TT C "name" S_rh) kb_read_house := by
  refine df_of T.f_read_house fun f fd F => ok_pure F sc_read_house (fun xs oc h => by obtain ⟨_, rfl, _⟩ := h; rfl) fun cdv A outer s H E hr xs oc hS => ?_
  obtain ⟨z, rfl, hS⟩ := hS
  rcases hS with ⟨h1, h2, rfl⟩ | ⟨l, r, rfl, hl, hR, rfl⟩
  · have hf : (txB z) = false := by
      cases z with
      | str x =>
        have := h1 (tl x) (by unfold TX; rw [tx_tl])
        show decide (x.length ≤ 2000) = false
        rw [len_tl]
        exact decide_eq_false (by omega)
      | _ => rfl
    refine rf_dem (nm := "text") (b := false) T (by walk_at "room") takes_D (ra_cons (rv_eqD (txt_dem T z h2) (congrArg PyData.bool hf)) (ra_cons rv_str ra_nil)) (fun h => by cases h) fun _ => rfl
  · have := rd_all T (C0 := C) (fl0 := "name") (f := f) (cdv := cdv) (A := A) (outer := outer) (s := s) (H := H) (E := E) (Room.mono hr (by decide)) hl fun k hk => by rw [hR] at hk; cases hk
    rw [hR] at this
    exact rf_dem (nm := "text") (b := true) T (by walk_at "room") takes_D (ra_cons (rv_eqD (txt_dem T (TX l) (fun l2 e => by rw [← TX_inj e]; omega)) (congrArg PyData.bool (show decide ((tx l).length ≤ 2000) = true by rw [tx_len]; exact decide_eq_true hl))) (ra_cons rv_str ra_nil)) (fun _ => this) fun h => by cases h
theorem df_read_houseB (T : Txt P w K mg base TT C) : Df P w K mg base "read_house" 5 ["text"] (spP K TT (CT K) "line" S_rhB) kb_read_house := by
  refine df_of T.f_read_house fun f fd F => ok_pure F sc_read_house (fun xs oc h => by obtain ⟨_, _, rfl, _⟩ := h; rfl) fun cdv A outer s H E hr xs oc hS => ?_
  obtain ⟨l, k, rfl, hl, hR, rfl⟩ := hS
  have := rd_all T (C0 := CT K) (fl0 := "line") (f := f) (cdv := cdv) (A := A) (outer := outer) (s := s) (H := H) (E := E) (Room.mono hr (by decide)) hl fun k hk => T.bt
  rw [hR] at this
  exact rf_cons (rs_expr (rv_call (xs := [_, _]) (df_demand T) (by walk_at "room") (ra_cons (rv_eqD (txt_dem T (TX l) (fun l2 e => by rw [← TX_inj e]; omega)) (congrArg PyData.bool (show decide ((tx l).length ≤ 2000) = true by rw [tx_len]; exact decide_eq_true hl))) (ra_cons rv_str ra_nil)) ⟨_, _, rfl, rfl⟩)) this
end
end KX

set_option Elab.async false
set_option linter.all false
set_option maxRecDepth 100000
set_option maxHeartbeats 4000000
namespace KX
open PySem PySem.Spec PyProof.Rows L2 Dn TL
local macro_rules | `(tactic| walk_at "ovAdd") => `(tactic| first | exact ov_add | exact ov_catT (by walk_at "side"))
local macro_rules | `(tactic| walk_at "ovSub") => `(tactic| exact ov_sub)
local macro_rules | `(tactic| walk_at "ovMult") => `(tactic| first | exact ov_mul (by walk_at "side") | exact ov_mulW (by walk_at "side"))
local macro_rules | `(tactic| walk_at "ovMod") => `(tactic| exact ov_mod (by walk_at "side"))
local macro_rules | `(tactic| walk_at "ovFloorDiv") => `(tactic| first | exact ov_fdiv ⟨by omega, by omega⟩ | exact ov_fdivW (by walk_at "side"))
local macro_rules | `(tactic| walk_at "ovPow") => `(tactic| exact ov_pow ⟨by decide, by decide, by decide⟩)
local macro_rules | `(tactic| walk_at "side") => `(tactic| first | omega | assumption | (exact .inl ⟨by omega, by omega⟩) | (exact .inr ⟨by omega, by omega⟩) | decide)
local macro_rules | `(tactic| walk_at "ovLt") => `(tactic| exact ov_lt)
local macro_rules | `(tactic| walk_at "ovLtE") => `(tactic| exact ov_le)
local macro_rules | `(tactic| walk_at "ovGt") => `(tactic| exact ov_gt)
local macro_rules | `(tactic| walk_at "ovGtE") => `(tactic| exact ov_ge)
local macro_rules | `(tactic| walk_at "ovEq") => `(tactic| first | exact ov_eqI | exact ov_eqB)
local macro_rules | `(tactic| walk_at "ovNotEq") => `(tactic| first | exact ov_neI | exact ov_neB)
local macro_rules | `(tactic| walk_at "ovIs") => `(tactic| first | exact ov_isN | exact ov_isB)
local macro_rules | `(tactic| walk_at "ovIsNot") => `(tactic| first | exact ov_notN | exact ov_notB)
local macro_rules | `(tactic| walk_at "vw") => `(tactic| first | exact Vw.dl | exact Vw.dt | exact Vw.li | exact Vw.sl rfl)
local macro_rules | `(tactic| walk_at "dv") => `(tactic| first | exact Dv.da | exact Dv.li | exact Dv.sl rfl)
local macro_rules | `(tactic| walk_at "at") => `(tactic| first | rfl | assumption)
local macro_rules | `(tactic| walk_at "isi") => `(tactic| first | exact kb_int _ | exact kb_bool _ | exact kb_tuple _ | exact kb_str _)
local macro_rules | `(tactic| walk_at "room") => `(tactic| exact Room.mono (by assumption) (by decide))
local macro_rules | `(tactic| walk_at "cvlen") => `(tactic| exact cv_len (by walk_at "vw"))
local macro_rules | `(tactic| walk_at "cvabs") => `(tactic| exact cv_abs)
local macro_rules | `(tactic| walk_at "cvint") => `(tactic| exact cv_int)
local macro_rules | `(tactic| walk_at "cvmax") => `(tactic| exact cv_max2 rfl)
local macro_rules | `(tactic| walk_at "cvmin") => `(tactic| exact cv_min2 rfl)
local macro_rules | `(tactic| walk_at "cvtuple") => `(tactic| exact cv_tuple (by walk_at "vw"))
local macro_rules | `(tactic| walk_at "cvlist") => `(tactic| exact cv_list (by walk_at "vw"))
local macro_rules | `(tactic| walk_at "wk") => `(tactic| repeat (first | exact Wk.nil | refine Wk.same ?_ | refine Wk.drop ?_))
local macro_rules | `(tactic| walk_at "rng") => `(tactic| (refine ⟨?_, ?_⟩ <;> omega))

local macro_rules | `(tactic| walk_at "sp") => `(tactic| first | exact ⟨_, rfl, rfl⟩ | exact ⟨_, _, rfl, rfl⟩ | exact ⟨_, _, _, rfl, rfl⟩ | exact ⟨_, _, _, _, _, by decide, rfl, rfl⟩)
/-! the law's reader -/
def okD (l : List Nat) : Bool := decide ((1 ≤ l.length ∧ l.length ≤ 3) ∧ l.all digB = true)
def nmO (m : Nat) (l : List Nat) : Option Nat := match numO l with
  | none => none
  | some n => if n ≤ m then some n else none
def lnO (ws : List (List Nat)) (m : Nat) : Option (List Nat) := allO (ws.map (nmO m))
theorem numO_okD {l : List Nat} (h : okD l = true) : numO l = if numL (NumText.digitsVal l) = l then some (NumText.digitsVal l) else none := if_pos (of_decide_eq_true h)
theorem nmO_some {m : Nat} {l : List Nat} {n : Nat} (h : nmO m l = some n) : okD l = true ∧ n = NumText.digitsVal l ∧ numL (NumText.digitsVal l) = l ∧ n ≤ m := by
  unfold nmO at h
  cases e : numO l with
  | none => rw [e] at h; cases h
  | some k =>
    rw [e] at h
    have h : (if k ≤ m then some k else none) = some n := h
    split at h
    · rename_i hk
      cases h
      unfold numO at e
      split at e
      · rename_i hc
        split at e
        · rename_i hn
          cases e
          exact ⟨decide_eq_true hc, rfl, hn, hk⟩
        · cases e
      · cases e
    · cases h
theorem lnO_eq (m : Nat) : ∀ ws : List (List Nat), lnO ws m = match allO (ws.map numO) with
    | none => none
    | some ns => if ns.all (fun n => decide (n ≤ m)) = true then some ns else none
  | [] => rfl
  | l :: ws => by
    have ih := lnO_eq m ws
    unfold lnO at ih ⊢
    rw [List.map_cons, List.map_cons]
    unfold nmO
    cases e : numO l with
    | none => rfl
    | some n =>
      show allO ((if n ≤ m then some n else none) :: ws.map (nmO m)) = match (allO (ws.map numO)).map (n :: ·) with | none => none | some ns => if ns.all (fun n => decide (n ≤ m)) = true then some ns else none
      by_cases h : n ≤ m
      · rw [if_pos h]
        show (allO (ws.map (nmO m))).map (n :: ·) = _
        rw [ih]
        cases allO (ws.map numO) with
        | none => rfl
        | some ns =>
          show ((if ns.all (fun n => decide (n ≤ m)) = true then some ns else none).map (n :: ·)) = if (n :: ns).all (fun n => decide (n ≤ m)) = true then some (n :: ns) else none
          rw [List.all_cons, decide_eq_true h, Bool.true_and]
          split <;> rfl
      · rw [if_neg h]
        show none = _
        cases allO (ws.map numO) with
        | none => rfl
        | some ns =>
          show none = if (n :: ns).all (fun n => decide (n ≤ m)) = true then some (n :: ns) else none
          rw [List.all_cons, decide_eq_false h, Bool.false_and]
          rfl
theorem isIn_n (x : Nat) (lo hi : Int) : isIn (.int (x : Int)) lo hi = (decide (lo ≤ (x : Int)) && decide ((x : Int) ≤ hi)) := rfl
theorem okM_eq (ms : List Nat) : okM ms = (decide (ms.length ≤ 12) && ms.all fun n => decide (n ≤ 9)) := by
  show (isTup (.tuple (natsD ms)) 0 12 && (natsD ms).all fun x => isIn x 0 9) = _
  congr 1
  · show (decide ((0 : Int) ≤ ((natsD ms).length : Int)) && decide (((natsD ms).length : Int) ≤ 12)) = _
    rw [natsD_len, decide_eq_true (by omega), Bool.true_and]
    exact decide_eq_decide.mpr (by omega)
  · unfold natsD
    rw [List.all_map]
    refine congrArg (fun g => ms.all g) (funext fun n => ?_)
    show (decide ((0 : Int) ≤ (n : Int)) && decide ((n : Int) ≤ 9)) = _
    rw [decide_eq_true (by omega), Bool.true_and]
    exact decide_eq_decide.mpr (by omega)
/-- the first line: what both say -/
def firO (w0 : List Nat) (r : List (List Nat)) : Option (List Nat) := if w0 = daysL then (match lnO r 9 with | none => none | some ms => if ms.length ≤ 12 then some ms else none) else none
def firP (x : Option (List Nat)) : Option (List Nat) := match x with | none => none | some ms => if okM ms = true then some ms else none
theorem first_eq (w0 : List Nat) (r : List (List Nat)) : firP (if w0 = daysL then allO (r.map numO) else none) = firO w0 r := by
  unfold firP firO
  by_cases h : w0 = daysL
  · rw [if_pos h, if_pos h, lnO_eq]
    cases allO (r.map numO) with
    | none => rfl
    | some ms =>
      show (if okM ms = true then some ms else none) = match (if ms.all (fun n => decide (n ≤ 9)) = true then some ms else none) with | none => none | some ms => if ms.length ≤ 12 then some ms else none
      rw [okM_eq]
      by_cases h9 : ms.all (fun n => decide (n ≤ 9)) = true
      · rw [h9, if_pos rfl, Bool.and_true]
        show _ = if ms.length ≤ 12 then some ms else none
        by_cases h12 : ms.length ≤ 12
        · rw [decide_eq_true h12, if_pos rfl, if_pos h12]
        · rw [decide_eq_false h12, if_neg h12]
          rfl
      · rw [if_neg h9]
        have : ms.all (fun n => decide (n ≤ 9)) = false := by simpa using h9
        rw [this, Bool.and_false]
        rfl
  · rw [if_neg h, if_neg h]
def lw2 (n : Nat) : List Nat → Bool
  | [a, b, c, d] => !(decide (a < b) && decide (b ≤ n)) || decide (c > d)
  | _ => true
def lwB (n i : Nat) (w0 : List Nat) (r : List (List Nat)) : Bool := !decide (w0 = thingL) || match lnO r 120 with
  | none => true
  | some t => (!decide (t.length = 4) || decide (i = 6)) || lw2 n t
theorem isThing_n (n a b c d : Nat) : isThing (n : Int) (.tuple (natsD [a, b, c, d])) = (isIn (.int (a : Int)) 0 ((n : Int) - 1) && (isIn (.int (b : Int)) ((a : Int) + 1) n && (isIn (.int (c : Int)) 0 120 && isIn (.int (d : Int)) (c : Int) 120))) := rfl
theorem bad_eq {n i : Nat} (hn : n ≤ 12) (line w0 : List Nat) (r : List (List Nat)) (h : nbO line thingL = if w0 = thingL then allO (r.map numO) else none) : badL n i line = lwB n i w0 r := by
  unfold badL lwB
  rw [h]
  by_cases hw : w0 = thingL
  · rw [if_pos hw, decide_eq_true hw, lnO_eq, Bool.not_true, Bool.false_or]
    cases allO (r.map numO) with
    | none => rfl
    | some t =>
      show (!isThing (n : Int) (.tuple (natsD t)) || decide (i = 6)) = match (if t.all (fun n => decide (n ≤ 120)) = true then some t else none) with | none => true | some t => (!decide (t.length = 4) || decide (i = 6)) || lw2 n t
      have gen : t.length ≠ 4 → (!false || decide (i = 6)) = match (if t.all (fun n => decide (n ≤ 120)) = true then some t else none) with | none => true | some t => (!decide (t.length = 4) || decide (i = 6)) || lw2 n t := fun h4 => by
        by_cases hc : t.all (fun n => decide (n ≤ 120)) = true
        · rw [if_pos hc]
          show _ = ((!decide (t.length = 4) || decide (i = 6)) || lw2 n t)
          rw [decide_eq_false h4]
          rfl
        · rw [if_neg hc]
          rfl
      match t with
      | [a, b, c, d] =>
        rw [isThing_n, isIn_n, isIn_n, isIn_n, isIn_n]
        by_cases h120 : [a, b, c, d].all (fun n => decide (n ≤ 120)) = true
        · rw [if_pos h120]
          simp only [List.all_cons, List.all_nil, Bool.and_true, Bool.and_eq_true, decide_eq_true_eq] at h120
          show _ = ((!decide (4 = 4) || decide (i = 6)) || (!(decide (a < b) && decide (b ≤ n)) || decide (c > d)))
          rw [Bool.eq_iff_iff]
          simp
          omega
        · rw [if_neg h120]
          simp only [List.all_cons, List.all_nil, Bool.and_true, Bool.and_eq_true, decide_eq_true_eq] at h120
          show _ = true
          rw [Bool.eq_iff_iff]
          simp
          omega
      | [] =>
        exact gen (by simp)
      | [a] =>
        exact gen (by simp)
      | [a, b] =>
        exact gen (by simp)
      | [a, b, c] =>
        exact gen (by simp)
      | a :: b :: c :: d :: e :: t =>
        exact gen (by simp)
  · rw [if_neg hw, decide_eq_false hw]
    rfl
end KX

set_option Elab.async false
set_option linter.all false
set_option maxRecDepth 100000
set_option maxHeartbeats 4000000
namespace KX
open PySem PySem.Spec PyProof.Rows L2 Dn TL
local macro_rules | `(tactic| walk_at "ovAdd") => `(tactic| first | exact ov_add | exact ov_catT (by walk_at "side"))
local macro_rules | `(tactic| walk_at "ovSub") => `(tactic| exact ov_sub)
local macro_rules | `(tactic| walk_at "ovMult") => `(tactic| first | exact ov_mul (by walk_at "side") | exact ov_mulW (by walk_at "side"))
local macro_rules | `(tactic| walk_at "ovMod") => `(tactic| exact ov_mod (by walk_at "side"))
local macro_rules | `(tactic| walk_at "ovFloorDiv") => `(tactic| first | exact ov_fdiv ⟨by omega, by omega⟩ | exact ov_fdivW (by walk_at "side"))
local macro_rules | `(tactic| walk_at "ovPow") => `(tactic| exact ov_pow ⟨by decide, by decide, by decide⟩)
local macro_rules | `(tactic| walk_at "side") => `(tactic| first | omega | assumption | (exact .inl ⟨by omega, by omega⟩) | (exact .inr ⟨by omega, by omega⟩) | decide)
local macro_rules | `(tactic| walk_at "ovLt") => `(tactic| exact ov_lt)
local macro_rules | `(tactic| walk_at "ovLtE") => `(tactic| exact ov_le)
local macro_rules | `(tactic| walk_at "ovGt") => `(tactic| exact ov_gt)
local macro_rules | `(tactic| walk_at "ovGtE") => `(tactic| exact ov_ge)
local macro_rules | `(tactic| walk_at "ovEq") => `(tactic| first | exact ov_eqI | exact ov_eqB)
local macro_rules | `(tactic| walk_at "ovNotEq") => `(tactic| first | exact ov_neI | exact ov_neB)
local macro_rules | `(tactic| walk_at "ovIs") => `(tactic| first | exact ov_isN | exact ov_isB)
local macro_rules | `(tactic| walk_at "ovIsNot") => `(tactic| first | exact ov_notN | exact ov_notB)
local macro_rules | `(tactic| walk_at "vw") => `(tactic| first | exact Vw.dl | exact Vw.dt | exact Vw.li | exact Vw.sl rfl)
local macro_rules | `(tactic| walk_at "dv") => `(tactic| first | exact Dv.da | exact Dv.li | exact Dv.sl rfl)
local macro_rules | `(tactic| walk_at "at") => `(tactic| first | rfl | assumption)
local macro_rules | `(tactic| walk_at "isi") => `(tactic| first | exact kb_int _ | exact kb_bool _ | exact kb_tuple _ | exact kb_str _)
local macro_rules | `(tactic| walk_at "room") => `(tactic| exact Room.mono (by assumption) (by decide))
local macro_rules | `(tactic| walk_at "cvlen") => `(tactic| exact cv_len (by walk_at "vw"))
local macro_rules | `(tactic| walk_at "cvabs") => `(tactic| exact cv_abs)
local macro_rules | `(tactic| walk_at "cvint") => `(tactic| exact cv_int)
local macro_rules | `(tactic| walk_at "cvmax") => `(tactic| exact cv_max2 rfl)
local macro_rules | `(tactic| walk_at "cvmin") => `(tactic| exact cv_min2 rfl)
local macro_rules | `(tactic| walk_at "cvtuple") => `(tactic| exact cv_tuple (by walk_at "vw"))
local macro_rules | `(tactic| walk_at "cvlist") => `(tactic| exact cv_list (by walk_at "vw"))
local macro_rules | `(tactic| walk_at "wk") => `(tactic| repeat (first | exact Wk.nil | refine Wk.same ?_ | refine Wk.drop ?_))
local macro_rules | `(tactic| walk_at "rng") => `(tactic| (refine ⟨?_, ?_⟩ <;> omega))

local macro_rules | `(tactic| walk_at "sp") => `(tactic| first | exact ⟨_, rfl, rfl⟩ | exact ⟨_, _, rfl, rfl⟩ | exact ⟨_, _, _, rfl, rfl⟩ | exact ⟨_, _, _, _, _, by decide, rfl, rfl⟩)
section
variable {P : Program} {w : World} {K : PySem.W.Frag} {mg : Str → Option Value} {base : Heap} {TT : List (Addr × Str)} {C : Addr}
def S_lnu (xs : List PyData) (oc : Oc) : Prop := ∃ (ws : List (List Nat)) (m : Nat), xs = [.list (ws.map TX), .int (m : Int)] ∧ ws.length ≤ 3000 ∧ (∀ p ∈ ws, p.length ≤ 4000) ∧ oc = .ret (.da (optT (lnO ws m)))
theorem df__law_numbers (T : Txt P w K mg base TT C) : Df P w K mg base "_law_numbers" 1 ["words", "most"] (spP K TT C "name" S_lnu) := by
  refine df_of T.f__law_numbers fun f fd F => ok_pure F sc__law_numbers (fun xs oc h => by obtain ⟨_, _, rfl, _⟩ := h; rfl) fun cdv A outer s H E hr xs oc hS => ?_
  obtain ⟨ws, m, rfl, wl, wb, rfl⟩ := hS
  let ρ0 : Option Dt → Option Dt → Option Dt → Rho := fun fo wd sg => [dd (.list (ws.map TX)), dd (.int (m : Int)), fo, wd, sg]
  let vs : List Nat := ws.map NumText.digitsVal
  let inv : Nat → Rho := fun i => ρ0 (oo (natsD (vs.take i))) none none
  have turn : ∀ (i : Nat) (l : List Nat), ws[i]? = some l → ∃ so', RSs (CxD P w K mg base N__law_numbers "_law_numbers" s__law_numbers f cdv A outer s H E) ⟨TT, noφ⟩ ⟨C, "name", E⟩ (loopOf ((defBody s__law_numbers).getD 1 (.Pass ⟨0, 0, 0, 0⟩))) (ρ0 (oo (natsD (vs.take i))) (dd (TX l)) none) so' ∧
      (((nmO m l).isSome = true ∧ so' = .nx (inv (i + 1))) ∨ ((nmO m l).isSome = false ∧ ∃ ρ', so' = .rt (.da .none) ρ')) := by
    intro i l hl
    have ll := wb l (List.mem_of_getElem? hl)
    have til := (List.getElem?_eq_some_iff.mp hl).1
    have vl : (vs.take i).length ≤ 3000 := by
      rw [List.length_take]
      show min i (ws.map _).length ≤ _
      rw [List.length_map]
      omega
    let ρi : Option Dt → Rho := fun sg => ρ0 (oo (natsD (vs.take i))) (dd (TX l)) sg
    have t1 : RT (CxD P w K mg base N__law_numbers "_law_numbers" s__law_numbers f cdv A outer s H E) ⟨TT, noφ⟩ (match (loopOf ((defBody s__law_numbers).getD 1 (.Pass ⟨0, 0, 0, 0⟩))).getD 0 (.Pass ⟨0, 0, 0, 0⟩) with | .If c _ _ _ => c | _ => .Name "" ⟨0, 0, 0, 0⟩) (ρi none) (!okD l) (ρi none) := by
      refine rt_eq (a := (!(decide ((1 : Int) ≤ (l.length : Int)) && decide ((l.length : Int) ≤ 3)) || !l.all digB)) (rt_w (rw_or (rt_not (rt_chainT rv_int (rv_callB (ra_cons (rv_name 3) ra_nil) (cv_lenX (by omega)) T.b_len) ov_le (fun _ => rv_int) (fun _ => ov_le))) fun _ => rw_or1 (rt_not ?_))) ?_
      · rw [← dg_all]
        refine rt_val (rv_callB (ra_cons (rv_map (own := [("sign", 4)]) (xs := l.map fun c => TX [c]) (ρ1 := ρi none) (fun x => .bool (dgP x)) rfl sc__law_numbers.nd (iv_strX (rv_name 3)) (blkOk_by (N := N__law_numbers) (sc := defScope s__law_numbers) (by decide +kernel)) rfl (by rw [List.length_map]; omega) (fun i x hx => ?_)) ra_nil) (cv_allM rfl) T.b_all)
        rw [List.getElem?_map] at hx
        obtain ⟨c, hc, rfl⟩ := Option.map_eq_some_iff.mp hx
        exact ⟨ρi (dd (TX [c])), _, fun j hj => hj, fun s H C cl fp => (gv_name 4 sc__law_numbers.nd), by walk_at "wk", _, fun s H C cl fp => rv_cmp (rv_name 4) rv_str ov_inSign, by walk_at "wk"⟩
      · unfold okD
        have e : (decide ((1 : Int) ≤ (l.length : Int)) && decide ((l.length : Int) ≤ 3)) = decide (1 ≤ l.length ∧ l.length ≤ 3) := by
          rw [← Bool.decide_and]
          exact decide_eq_decide.mpr (by omega)
        rw [e]
        by_cases h : 1 ≤ l.length ∧ l.length ≤ 3
        · cases hb : l.all digB <;> simp [h]
        · simp [h]
    cases hk : okD l with
    | false =>
      rw [hk] at t1
      have e : (nmO m l).isSome = false := by
        cases e : nmO m l with
        | none => rfl
        | some n => rw [(nmO_some e).1] at hk; cases hk
      exact ⟨.rt (.da .none) (ρi none), rss_stop (rs_if t1 (fun _ => rss_stop (rs_ret rv_non)) fun z => by cases z), .inr ⟨e, _, rfl⟩⟩
    | true =>
      rw [hk] at t1
      have hc := of_decide_eq_true hk
      have hd := dig_all hc.2
      have hv := dig_val hd hc.1.1 hc.1.2
      have hne : l ≠ [] := fun z => by rw [z] at hc; simp at hc
      have eN : nmO m l = if numL (NumText.digitsVal l) = l ∧ NumText.digitsVal l ≤ m then some (NumText.digitsVal l) else none := by
        unfold nmO
        rw [numO_okD hk]
        by_cases h1 : numL (NumText.digitsVal l) = l
        · rw [if_pos h1]
          show (if NumText.digitsVal l ≤ m then some _ else none) = _
          by_cases h2 : NumText.digitsVal l ≤ m
          · rw [if_pos h2, if_pos ⟨h1, h2⟩]
          · rw [if_neg h2, if_neg fun z => h2 z.2]
        · rw [if_neg h1, if_neg fun z => h1 z.1]
      have t2 : RT (CxD P w K mg base N__law_numbers "_law_numbers" s__law_numbers f cdv A outer s H E) ⟨TT, noφ⟩ (match (loopOf ((defBody s__law_numbers).getD 1 (.Pass ⟨0, 0, 0, 0⟩))).getD 1 (.Pass ⟨0, 0, 0, 0⟩) with | .If c _ _ _ => c | _ => .Name "" ⟨0, 0, 0, 0⟩) (ρi none) (!decide (numL (NumText.digitsVal l) = l) || decide ((m : Int) < (NumText.digitsVal l : Nat))) (ρi none) :=
        rt_w (rw_or (rt_cmp (rv_callTy (ra_cons (rv_callTy (ra_cons (rv_name 3) ra_nil) (cv_intX hd hne (by omega)) T.b_int) ra_nil) (cv_strN (by omega)) T.b_str) (rv_name 3) ov_neX) fun _ => rw_or1 (rt_cmp (rv_callTy (ra_cons (rv_name 3) ra_nil) (cv_intX hd hne (by omega)) T.b_int) (rv_name 1) ov_gt))
      by_cases hg : numL (NumText.digitsVal l) = l ∧ NumText.digitsVal l ≤ m
      · rw [decide_eq_true hg.1, decide_eq_false (show ¬ (m : Int) < (NumText.digitsVal l : Nat) by omega)] at t2
        have en : natsD (vs.take (i + 1)) = natsD (vs.take i) ++ [.int ((NumText.digitsVal l : Nat) : Int)] := by
          rw [List.take_add_one, List.getElem?_map, hl]
          show natsD (vs.take i ++ [NumText.digitsVal l]) = _
          unfold natsD
          rw [List.map_append]
          rfl
        refine ⟨_, rss_weak (rss_cons (rs_if t1 (fun z => by cases z) fun _ => rss_nil) (rss_cons (rs_if t2 (fun z => by cases z) fun _ => rss_nil) (rss_one (rs_append (i := 2) (xs := natsD (vs.take i)) (z := .int ((NumText.digitsVal l : Nat) : Int)) (ρ2 := ρi none) (rv_slot 2) (rv_callTy (ra_cons (rv_name 3) ra_nil) (cv_intX hd hne (by omega)) T.b_int) rfl (by rw [natsD_len]; omega) ⟨_, rfl⟩)))) (show Wk _ (inv (i + 1)) from ?_), .inl ⟨by rw [eN, if_pos hg]; rfl, rfl⟩⟩
        show Wk _ (ρ0 (oo (natsD (vs.take (i + 1)))) none none)
        rw [en]
        walk_at "wk"
      · have e2 : (!decide (numL (NumText.digitsVal l) = l) || decide ((m : Int) < (NumText.digitsVal l : Nat))) = true := by
          simp
          by_cases h1 : numL (NumText.digitsVal l) = l
          · right
            have : ¬ NumText.digitsVal l ≤ m := fun z => hg ⟨h1, z⟩
            omega
          · exact .inl h1
        rw [e2] at t2
        exact ⟨.rt (.da .none) (ρi none), rss_cons (rs_if t1 (fun z => by cases z) fun _ => rss_nil) (rss_stop (rs_if t2 (fun _ => rss_stop (rs_ret rv_non)) fun z => by cases z)), .inr ⟨by rw [eN, if_neg hg]; rfl, _, rfl⟩⟩
  refine rf_cons (rs_setL 2 (zs := []) (ρ1 := ρ0 none none none) (rv_lst (xs := []) ra_nil) sc__law_numbers.nd) ?_
  cases hf : (List.range ws.length).find? (fun i => (nmO m (ws.getD i [])).isNone) with
  | none =>
    have hgood : ∀ (i : Nat) (l : List Nat), ws[i]? = some l → (nmO m l).isSome = true := fun i l h => by
      have := find_none_lt hf i (List.getElem?_eq_some_iff.mp h).1
      rw [List.getD_eq_getElem?_getD, h] at this
      cases e : nmO m l with
      | none => have this : (nmO m l).isNone = false := this; rw [e] at this; cases this
      | some _ => rfl
    have eo : lnO ws m = some vs := by
      unfold lnO
      rw [allO_some]
      show _ = (ws.map NumText.digitsVal).map some
      rw [List.map_map]
      refine List.map_congr_left fun l hl => ?_
      obtain ⟨i, hi⟩ := List.getElem?_of_mem hl
      have := hgood i l hi
      obtain ⟨n, hn⟩ := Option.isSome_iff_exists.mp this
      rw [hn, (nmO_some hn).2.1]
      rfl
    rw [eo]
    refine rf_cons (rs_eq (rs_for (xs := ws.map TX) inv (iv_eq2 (by first | exact iv_tup (by first | exact rv_name 0 | exact rv_slot 0) | exact iv_list (by first | exact rv_name 0 | exact rv_slot 0) | exact iv_list (rv_settle (by first | exact rv_name 0 | exact rv_slot 0))) rfl rfl) (passes_of rfl) rfl fun i x hx => ?_) (ρ2 := ρ0 (oo (natsD vs)) none none) (by rw [List.length_map]; show ρ0 (oo (natsD (vs.take ws.length))) none none = _; rw [show ws.length = vs.length from (List.length_map _).symm, List.take_length])) (rf_ret (rv_callTy (ra_cons (rv_slot 2) ra_nil) (cv_tuple (.sl rfl)) T.b_tuple))
    rw [List.getElem?_map] at hx
    obtain ⟨l, hl, rfl⟩ := Option.map_eq_some_iff.mp hx
    obtain ⟨so', h1, h2⟩ := turn i l hl
    rcases h2 with ⟨_, rfl⟩ | ⟨z, _⟩
    · exact ⟨_, _, (gv_name 3 sc__law_numbers.nd), .inl h1⟩
    · rw [hgood i l hl] at z; cases z
  | some k =>
    obtain ⟨hk, hkb, hbef⟩ := find_some_lt hf
    have hl := List.getElem?_eq_getElem hk
    rw [List.getD_eq_getElem?_getD, hl] at hkb
    have hkb : (nmO m ws[k]).isNone = true := hkb
    have hgood : ∀ (i : Nat) (l : List Nat), i < k → ws[i]? = some l → (nmO m l).isSome = true := fun i l hi h => by
      have := hbef i hi
      rw [List.getD_eq_getElem?_getD, h] at this
      cases e : nmO m l with
      | none => have this : (nmO m l).isNone = false := this; rw [e] at this; cases this
      | some _ => rfl
    have hn : nmO m ws[k] = none := Option.isNone_iff_eq_none.mp hkb
    have eo : lnO ws m = none := allO_none.mpr (List.mem_map.mpr ⟨ws[k], List.getElem_mem hk, hn⟩)
    rw [eo]
    obtain ⟨so', h1, h2⟩ := turn k _ hl
    rcases h2 with ⟨z, _⟩ | ⟨_, ρ', rfl⟩
    · rw [hn] at z; cases z
    · refine ⟨_, rss_stop (rs_forX (so := .rt (.da .none) ρ') k inv (iv_eq2 (by first | exact iv_tup (by first | exact rv_name 0 | exact rv_slot 0) | exact iv_list (by first | exact rv_name 0 | exact rv_slot 0) | exact iv_list (rv_settle (by first | exact rv_name 0 | exact rv_slot 0))) rfl rfl) (passes_of rfl) rfl (fun i x hi hx => ?_) (.inr ⟨_, (show (ws.map TX)[k]? = some (TX ws[k]) by rw [List.getElem?_map, hl]; rfl), _, _, _, (gv_name 3 sc__law_numbers.nd), h1, .rt⟩)), .da⟩
      rw [List.getElem?_map] at hx
      obtain ⟨l, hl, rfl⟩ := Option.map_eq_some_iff.mp hx
      obtain ⟨so', h1, h2⟩ := turn i l hl
      rcases h2 with ⟨_, rfl⟩ | ⟨z, _⟩
      · exact ⟨_, _, (gv_name 3 sc__law_numbers.nd), .inl h1⟩
      · rw [hgood i l hi hl] at z; cases z
end
end KX

set_option Elab.async false
set_option linter.all false
set_option maxRecDepth 100000
set_option maxHeartbeats 4000000
namespace KX
open PySem PySem.Spec PyProof.Rows L2 Dn TL
local macro_rules | `(tactic| walk_at "ovAdd") => `(tactic| first | exact ov_add | exact ov_catT (by walk_at "side"))
local macro_rules | `(tactic| walk_at "ovSub") => `(tactic| exact ov_sub)
local macro_rules | `(tactic| walk_at "ovMult") => `(tactic| first | exact ov_mul (by walk_at "side") | exact ov_mulW (by walk_at "side"))
local macro_rules | `(tactic| walk_at "ovMod") => `(tactic| exact ov_mod (by walk_at "side"))
local macro_rules | `(tactic| walk_at "ovFloorDiv") => `(tactic| first | exact ov_fdiv ⟨by omega, by omega⟩ | exact ov_fdivW (by walk_at "side"))
local macro_rules | `(tactic| walk_at "ovPow") => `(tactic| exact ov_pow ⟨by decide, by decide, by decide⟩)
local macro_rules | `(tactic| walk_at "side") => `(tactic| first | omega | assumption | (exact .inl ⟨by omega, by omega⟩) | (exact .inr ⟨by omega, by omega⟩) | decide)
local macro_rules | `(tactic| walk_at "ovLt") => `(tactic| exact ov_lt)
local macro_rules | `(tactic| walk_at "ovLtE") => `(tactic| exact ov_le)
local macro_rules | `(tactic| walk_at "ovGt") => `(tactic| exact ov_gt)
local macro_rules | `(tactic| walk_at "ovGtE") => `(tactic| exact ov_ge)
local macro_rules | `(tactic| walk_at "ovEq") => `(tactic| first | exact ov_eqI | exact ov_eqB)
local macro_rules | `(tactic| walk_at "ovNotEq") => `(tactic| first | exact ov_neI | exact ov_neB)
local macro_rules | `(tactic| walk_at "ovIs") => `(tactic| first | exact ov_isN | exact ov_isB)
local macro_rules | `(tactic| walk_at "ovIsNot") => `(tactic| first | exact ov_notN | exact ov_notB)
local macro_rules | `(tactic| walk_at "vw") => `(tactic| first | exact Vw.dl | exact Vw.dt | exact Vw.li | exact Vw.sl rfl)
local macro_rules | `(tactic| walk_at "dv") => `(tactic| first | exact Dv.da | exact Dv.li | exact Dv.sl rfl)
local macro_rules | `(tactic| walk_at "at") => `(tactic| first | rfl | assumption)
local macro_rules | `(tactic| walk_at "isi") => `(tactic| first | exact kb_int _ | exact kb_bool _ | exact kb_tuple _ | exact kb_str _)
local macro_rules | `(tactic| walk_at "room") => `(tactic| exact Room.mono (by assumption) (by decide))
local macro_rules | `(tactic| walk_at "cvlen") => `(tactic| exact cv_len (by walk_at "vw"))
local macro_rules | `(tactic| walk_at "cvabs") => `(tactic| exact cv_abs)
local macro_rules | `(tactic| walk_at "cvint") => `(tactic| exact cv_int)
local macro_rules | `(tactic| walk_at "cvmax") => `(tactic| exact cv_max2 rfl)
local macro_rules | `(tactic| walk_at "cvmin") => `(tactic| exact cv_min2 rfl)
local macro_rules | `(tactic| walk_at "cvtuple") => `(tactic| exact cv_tuple (by walk_at "vw"))
local macro_rules | `(tactic| walk_at "cvlist") => `(tactic| exact cv_list (by walk_at "vw"))
local macro_rules | `(tactic| walk_at "wk") => `(tactic| repeat (first | exact Wk.nil | refine Wk.same ?_ | refine Wk.drop ?_))
local macro_rules | `(tactic| walk_at "rng") => `(tactic| (refine ⟨?_, ?_⟩ <;> omega))

local macro_rules | `(tactic| walk_at "sp") => `(tactic| first | exact ⟨_, rfl, rfl⟩ | exact ⟨_, _, rfl, rfl⟩ | exact ⟨_, _, _, rfl, rfl⟩ | exact ⟨_, _, _, _, _, by decide, rfl, rfl⟩)
theorem rdO_eq {l l0 w0 : List Nat} {r r0 : List (List Nat)} (h1 : spl [10] 0 [] l = l0 :: r) (h2 : spl [32] 0 [] l0 = w0 :: r0) : rdO l = match firO w0 r0 with
    | none => .inl 1
    | some ms => match fstBad ms.length r with
      | some i => .inl (i + 2)
      | none => .inr (ms, r.map thO) := by
  rw [← first_eq]
  unfold rdO nbO
  rw [h1]
  show (match (if (spl [32] 0 [] l0).headD [] = daysL then allO (((spl [32] 0 [] l0).drop 1).map numO) else none) with | none => _ | some ms => _) = _
  rw [h2]
  show (match (if w0 = daysL then allO (r0.map numO) else none) with | none => _ | some ms => _) = _
  cases (if w0 = daysL then allO (r0.map numO) else none) with
  | none => rfl
  | some ms =>
    unfold firP
    show (if okM ms = true then _ else _) = match (if okM ms = true then some ms else none) with | none => _ | some ms => _
    cases okM ms with
    | true => rfl
    | false => rfl
theorem nbO_eq {line w0 first : List Nat} {r0 : List (List Nat)} (h : spl [32] 0 [] line = w0 :: r0) : nbO line first = if w0 = first then allO (r0.map numO) else none := by
  unfold nbO
  rw [h]
  rfl
section
variable {P : Program} {w : World} {K : PySem.W.Frag} {mg : Str → Option Value} {base : Heap} {TT : List (Addr × Str)} {C : Addr}
def S_lrd (xs : List PyData) (oc : Oc) : Prop := ∃ l : List Nat, xs = [TX l] ∧ l.length ≤ 2000 ∧ oc = .ret (.da (rdD (rdO l)))
theorem df__law_read (T : Txt P w K mg base TT C) : Df P w K mg base "_law_read" 2 ["text"] (spP K TT C "name" S_lrd) := by
  refine df_of T.f__law_read fun f fd F => ok_pure F sc__law_read (fun xs oc h => by obtain ⟨_, rfl, _⟩ := h; rfl) fun cdv A outer s H E hr xs oc hS => ?_
  obtain ⟨l, rfl, hl, rfl⟩ := hS
  have bd := spl_bd 10 l
  obtain ⟨l0, r, hls⟩ : ∃ l0 r, spl [10] 0 [] l = l0 :: r := by
    cases e : spl [10] 0 [] l with
    | nil => exact absurd e (spl_ne 10 [] l)
    | cons a r => exact ⟨a, r, rfl⟩
  rw [hls] at bd
  have l0l : l0.length ≤ 2000 := Nat.le_trans (bd.2 l0 (.head _)) hl
  have rl : r.length ≤ 2000 := by have := bd.1; rw [List.length_cons] at this; omega
  have rb : ∀ p ∈ r, p.length ≤ 2000 := fun p hp => Nat.le_trans (bd.2 p (.tail _ hp)) hl
  have cutw : ∀ p : List Nat, p.length ≤ 2000 → ∃ w0 r0, spl [32] 0 [] p = w0 :: r0 ∧ r0.length ≤ 3000 ∧ ∀ q ∈ r0, q.length ≤ 4000 := fun p hp => by
    have b := spl_bd 32 p
    cases e : spl [32] 0 [] p with
    | nil => exact absurd e (spl_ne 32 [] p)
    | cons a r =>
      rw [e] at b
      exact ⟨a, r, rfl, by have := b.1; rw [List.length_cons] at this; omega, fun q hq => by have := b.2 q (.tail _ hq); omega⟩
  obtain ⟨w0, r0, hw0, r0l, r0b⟩ := cutw l0 l0l
  let ρ0 : Option Dt → Option Dt → Option Dt → Option Dt → Option Dt → Option Dt → Option Dt → Rho := fun ls th wo mo at' li ow => [dd (TX l), ls, th, wo, mo, at', li, ow]
  refine rf_cons (rs_par 1 2 (ra := .li ((l0 :: r).map TX)) (rb := .li []) (ρ1 := ρ0 none none none none none none none) (rv_eqL (rv_splitX (by decide) (rv_name 0) (rv_strE tl_nl) (by omega)) (by rw [hls])) (rv_lst (xs := []) ra_nil) rfl sc__law_read.nd) (rf_settle 1 rfl ?_)
  let L1 : Option Dt := dd (.list ((l0 :: r).map TX))
  refine rf_cons (rs_setL 3 (zs := (w0 :: r0).map TX) (ρ1 := ρ0 L1 (oo []) none none none none none) (rv_eqL (rv_splitX (by decide) (rv_at (xs := (l0 :: r).map TX) (rv_name 1) rv_int .dl (at0 _ _)) (rv_strE tl_sp) (by omega)) (by rw [hw0])) sc__law_read.nd) (rf_settle 3 rfl ?_)
  let W3 : Option Dt := dd (.list ((w0 :: r0).map TX))
  refine rf_cons (rs_set 4 (z := optT (lnO r0 9)) (ρ1 := ρ0 L1 (oo []) W3 none none none none) (rv_call (xs := [_, _]) (df__law_numbers T) (by walk_at "room") (ra_cons (rv_eqD (rv_settle (rv_cutL (rv_name 3) (ro_some rv_int) ro_none .dl)) (congrArg PyData.list (cutA_drop ((w0 :: r0).map TX) 1))) (ra_cons rv_int ra_nil)) ⟨r0, 9, rfl, r0l, r0b, rfl⟩) sc__law_read.nd) ?_
  have eR := rdO_eq hls hw0
  let ρ4 : Rho := ρ0 L1 (oo []) W3 (dd (optT (lnO r0 9))) none none none
  have tb : RT (CxD P w K mg base N__law_read "_law_read" s__law_read f cdv A outer s H E) ⟨TT, noφ⟩ (match (defBody s__law_read).getD 3 (.Pass ⟨0, 0, 0, 0⟩) with | .If c _ _ _ => c | _ => .Name "" ⟨0, 0, 0, 0⟩) ρ4 (!decide (w0 = daysL) || (match lnO r0 9 with | none => true | some ms => decide (12 < ms.length))) ρ4 := by
    refine rt_w (rw_or (rt_cmp (rv_at (xs := (w0 :: r0).map TX) (rv_name 3) rv_int .dl (at0 _ _)) (rv_strE tl_days) ov_neX) fun _ => ?_)
    show RW _ _ _ (ρ0 L1 (oo []) W3 (dd (optT (lnO r0 9))) none none none) _ (ρ0 L1 (oo []) W3 (dd (optT (lnO r0 9))) none none none)
    cases lnO r0 9 with
    | none => exact rw_or (k1 := true) (k2 := false) (rt_cmp (by first | exact rv_name 4 | exact rv_slot 4) rv_non (by walk_at "ovIs")) fun z => by cases z
    | some ms =>
      have : decide (12 < ms.length) = (false || decide ((12 : Int) < ((natsD ms).length : Int))) := by
        rw [Bool.false_or, natsD_len]
        exact decide_eq_decide.mpr (by omega)
      show RW _ _ _ _ (decide (12 < ms.length)) _
      rw [this]
      exact rw_or (k1 := false) (rt_cmp (by first | exact rv_name 4 | exact rv_slot 4) rv_non (by walk_at "ovIs")) fun _ => rw_or1 (rt_cmp (rv_callB (ra_cons (by first | exact rv_name 4 | exact rv_slot 4) ra_nil) (by walk_at "cvlen") T.b_len) rv_int (by walk_at "ovGt"))
  cases hm : firO w0 r0 with
  | none =>
    rw [hm] at eR
    have eR : rdO l = .inl 1 := eR
    have e1 : (!decide (w0 = daysL) || (match lnO r0 9 with | none => true | some ms => decide (12 < ms.length))) = true := by
      unfold firO at hm
      by_cases hw : w0 = daysL
      · rw [if_pos hw] at hm
        rw [decide_eq_true hw, Bool.not_true, Bool.false_or]
        cases e : lnO r0 9 with
        | none => rfl
        | some ms =>
          rw [e] at hm
          have hm : (if ms.length ≤ 12 then some ms else none) = none := hm
          split at hm
          · cases hm
          · exact decide_eq_true (by omega)
      · rw [decide_eq_false hw]
        rfl
    rw [e1] at tb
    rw [eR]
    exact rf_ifT tb ⟨_, rss_one (rs_ret rv_int), .da, fun _ h => nomatch h⟩
  | some ms =>
    rw [hm] at eR
    obtain ⟨hw, hln, h12⟩ : w0 = daysL ∧ lnO r0 9 = some ms ∧ ms.length ≤ 12 := by
      unfold firO at hm
      by_cases hw : w0 = daysL
      · rw [if_pos hw] at hm
        cases e : lnO r0 9 with
        | none => rw [e] at hm; cases hm
        | some ns =>
          rw [e] at hm
          have hm : (if ns.length ≤ 12 then some ns else none) = some ms := hm
          split at hm
          · cases hm
            exact ⟨hw, rfl, by assumption⟩
          · cases hm
      · rw [if_neg hw] at hm; cases hm
    have eR : rdO l = match fstBad ms.length r with
      | some i => .inl (i + 2)
      | none => .inr (ms, r.map thO) := eR
    have e1 : (!decide (w0 = daysL) || (match lnO r0 9 with | none => true | some ms => decide (12 < ms.length))) = false := by
      rw [decide_eq_true hw, hln]
      exact decide_eq_false (by omega)
    rw [e1] at tb
    have tb : RT (CxD P w K mg base N__law_read "_law_read" s__law_read f cdv A outer s H E) ⟨TT, noφ⟩ (match (defBody s__law_read).getD 3 (.Pass ⟨0, 0, 0, 0⟩) with | .If c _ _ _ => c | _ => .Name "" ⟨0, 0, 0, 0⟩) (ρ0 L1 (oo []) W3 (dd (optT (lnO r0 9))) none none none) false (ρ0 L1 (oo []) W3 (dd (optT (lnO r0 9))) none none none) := tb
    rw [hln] at tb ⊢
    let M4 : Option Dt := dd (.tuple (natsD ms))
    let inv : Nat → Rho := fun i => ρ0 L1 (oo (CL ((r.map thO).take i))) none M4 none none none
    refine rf_cons (rs_weak (ρ1 := ρ0 L1 (oo []) W3 M4 none none none) (ρ2 := inv 0) (rs_if tb (fun z => by cases z) fun _ => rss_nil) (by walk_at "wk")) ?_
    have ivx : IV (CxD P w K mg base N__law_read "_law_read" s__law_read f cdv A outer s H E) ⟨TT, noφ⟩ (match (defBody s__law_read).getD 4 (.Pass ⟨0, 0, 0, 0⟩) with | .For t _ _ _ _ => t | _ => .Name "" ⟨0, 0, 0, 0⟩) (match (defBody s__law_read).getD 4 (.Pass ⟨0, 0, 0, 0⟩) with | .For _ i _ _ _ => i | _ => .Name "" ⟨0, 0, 0, 0⟩) (inv 0) (enumD (r.map TX)) (inv 0) :=
      iv_eq2 (iv_e .l T.b_enumerate (ra_cons (rv_settle (rv_cutL (rv_name 1) (ro_some rv_int) ro_none .dl)) ra_nil)) (by rw [show cutA ((l0 :: r).map TX) (some 1) none = r.map TX from cutA_drop ((l0 :: r).map TX) 1]) rfl
    have turn : ∀ (i : Nat) (line : List Nat), r[i]? = some line → i ≤ 6 → ∃ so', RSs (CxD P w K mg base N__law_read "_law_read" s__law_read f cdv A outer s H E) ⟨TT, noφ⟩ ⟨C, "name", E⟩ (loopOf ((defBody s__law_read).getD 4 (.Pass ⟨0, 0, 0, 0⟩))) (ρ0 L1 (oo (CL ((r.map thO).take i))) none M4 (dd (.int (i : Int))) (dd (TX line)) none) so' ∧
        ((badL ms.length i line = false ∧ so' = .nx (inv (i + 1))) ∨ (badL ms.length i line = true ∧ ∃ ρ', so' = .rt (.da (.int ((i + 2 : Nat) : Int))) ρ')) := by
      intro i line hline hi6
      have lb := rb line (List.mem_of_getElem? hline)
      have til := (List.getElem?_eq_some_iff.mp hline).1
      obtain ⟨wd, rr, hwd, rrl, rrb⟩ := cutw line lb
      have hbad := bad_eq (i := i) h12 line wd rr (nbO_eq hwd)
      have cl : (CL ((r.map thO).take i)).length = i := by rw [CL_len, List.length_take, List.length_map]; omega
      have en : CL ((r.map thO).take (i + 1)) = CL ((r.map thO).take i) ++ [.tuple (natsD (thO line))] := by
        rw [List.take_add_one, List.getElem?_map, hline, CL_app]
        rfl
      let Th : Option Dt := oo (CL ((r.map thO).take i))
      let ρi : Option Dt → Option Dt → Rho := fun wo ow => ρ0 L1 Th wo M4 (dd (.int (i : Int))) (dd (TX line)) ow
      let W : Option Dt := dd (.list ((wd :: rr).map TX))
      have at2 : ∀ ow, RV (CxD P w K mg base N__law_read "_law_read" s__law_read f cdv A outer s H E) ⟨TT, noφ⟩ (match (match (loopOf ((defBody s__law_read).getD 4 (.Pass ⟨0, 0, 0, 0⟩))).getD 2 (.Pass ⟨0, 0, 0, 0⟩) with | .If _ b _ _ => b.getD 0 (.Pass ⟨0, 0, 0, 0⟩) | s => s) with | .Return (some e) _ => e | _ => .Name "" ⟨0, 0, 0, 0⟩) (ρi W ow) (.da (.int ((i + 2 : Nat) : Int))) (ρi W ow) := fun ow =>
        rv_eqD (rv_bin (by first | exact rv_name 5 | exact rv_slot 5) rv_int (by walk_at "ovAdd")) (show PyData.int ((i : Int) + 2) = .int ((i + 2 : Nat) : Int) by rw [Int.natCast_add]; rfl)
      have at3 : ∀ ow, RV (CxD P w K mg base N__law_read "_law_read" s__law_read f cdv A outer s H E) ⟨TT, noφ⟩ (match (match (loopOf ((defBody s__law_read).getD 4 (.Pass ⟨0, 0, 0, 0⟩))).getD 3 (.Pass ⟨0, 0, 0, 0⟩) with | .If _ b _ _ => b.getD 0 (.Pass ⟨0, 0, 0, 0⟩) | s => s) with | .Return (some e) _ => e | _ => .Name "" ⟨0, 0, 0, 0⟩) (ρi W ow) (.da (.int ((i + 2 : Nat) : Int))) (ρi W ow) := fun ow =>
        rv_eqD (rv_bin (by first | exact rv_name 5 | exact rv_slot 5) rv_int (by walk_at "ovAdd")) (show PyData.int ((i : Int) + 2) = .int ((i + 2 : Nat) : Int) by rw [Int.natCast_add]; rfl)
      have s1 : RS (CxD P w K mg base N__law_read "_law_read" s__law_read f cdv A outer s H E) ⟨TT, noφ⟩ ⟨C, "name", E⟩ ((loopOf ((defBody s__law_read).getD 4 (.Pass ⟨0, 0, 0, 0⟩))).getD 0 (.Pass ⟨0, 0, 0, 0⟩)) (ρi none none) (.nx (ρi (oo ((wd :: rr).map TX)) none)) :=
        rs_setL 3 (zs := (wd :: rr).map TX) (ρ1 := ρi none none) (rv_eqL (rv_splitX (by decide) (rv_name 6) (rv_strE tl_sp) (by omega)) (by rw [hwd])) sc__law_read.nd
      have s2 : RS (CxD P w K mg base N__law_read "_law_read" s__law_read f cdv A outer s H E) ⟨TT, noφ⟩ ⟨C, "name", E⟩ ((loopOf ((defBody s__law_read).getD 4 (.Pass ⟨0, 0, 0, 0⟩))).getD 1 (.Pass ⟨0, 0, 0, 0⟩)) (ρi W none) (.nx (ρi W (dd (optT (lnO rr 120))))) :=
        rs_set 7 (z := optT (lnO rr 120)) (ρ1 := ρi W none) (rv_call (xs := [_, _]) (df__law_numbers T) (by walk_at "room") (ra_cons (rv_eqD (rv_settle (rv_cutL (rv_name 3) (ro_some rv_int) ro_none .dl)) (congrArg PyData.list (cutA_drop ((wd :: rr).map TX) 1))) (ra_cons rv_int ra_nil)) ⟨rr, 120, rfl, rrl, rrb, rfl⟩) sc__law_read.nd
      have t1 : RT (CxD P w K mg base N__law_read "_law_read" s__law_read f cdv A outer s H E) ⟨TT, noφ⟩ (match (loopOf ((defBody s__law_read).getD 4 (.Pass ⟨0, 0, 0, 0⟩))).getD 2 (.Pass ⟨0, 0, 0, 0⟩) with | .If c _ _ _ => c | _ => .Name "" ⟨0, 0, 0, 0⟩) (ρi W (dd (optT (lnO rr 120)))) (!decide (wd = thingL) || (match lnO rr 120 with | none => true | some t => !decide (t.length = 4) || decide (i = 6))) (ρi W (dd (optT (lnO rr 120)))) := by
        refine rt_w (rw_or (rt_cmp (rv_at (xs := (wd :: rr).map TX) (rv_name 3) rv_int .dl (at0 _ _)) (rv_strE tl_thing) ov_neX) fun _ => ?_)
        cases lnO rr 120 with
        | none => exact rw_or (k1 := true) (k2 := false) (rt_cmp (by first | exact rv_name 7 | exact rv_slot 7) rv_non (by walk_at "ovIs")) fun z => by cases z
        | some t =>
          have : (!decide (t.length = 4) || decide (i = 6)) = (false || (!decide (((natsD t).length : Int) = 4) || decide ((i : Int) = 6))) := by
            rw [Bool.false_or, natsD_len]
            congr 1
            · congr 1
              exact decide_eq_decide.mpr (by omega)
            · exact decide_eq_decide.mpr (by omega)
          show RW _ _ _ _ (!decide (t.length = 4) || decide (i = 6)) _
          rw [this]
          exact rw_or (k1 := false) (rt_cmp (by first | exact rv_name 7 | exact rv_slot 7) rv_non (by walk_at "ovIs")) fun _ => rw_or (rt_cmp (rv_callB (ra_cons (by first | exact rv_name 7 | exact rv_slot 7) ra_nil) (by walk_at "cvlen") T.b_len) rv_int (by walk_at "ovNotEq")) fun _ => rw_or1 (rt_cmp (rv_eqD (rv_callB (ra_cons (rv_slot 2) ra_nil) (cv_len (.sl rfl)) T.b_len) (congrArg (fun k : Nat => PyData.int (k : Int)) cl)) rv_int ov_eqI)
      have s12 : ∀ {so}, RSs (CxD P w K mg base N__law_read "_law_read" s__law_read f cdv A outer s H E) ⟨TT, noφ⟩ ⟨C, "name", E⟩ ((loopOf ((defBody s__law_read).getD 4 (.Pass ⟨0, 0, 0, 0⟩))).drop 2) (ρi W (dd (optT (lnO rr 120)))) so → RSs (CxD P w K mg base N__law_read "_law_read" s__law_read f cdv A outer s H E) ⟨TT, noφ⟩ ⟨C, "name", E⟩ (loopOf ((defBody s__law_read).getD 4 (.Pass ⟨0, 0, 0, 0⟩))) (ρi none none) so := fun h => rss_cons s1 (rss_settle 3 rfl (rss_cons s2 h))
      rw [hbad]
      unfold lwB
      by_cases ho : wd = thingL ∧ ∃ t, lnO rr 120 = some t ∧ t.length = 4 ∧ i ≠ 6
      · obtain ⟨hw2, t, ht, h4, hi⟩ := ho
        obtain ⟨a, b, c, d, rfl⟩ : ∃ a b c d, t = [a, b, c, d] := by
          match t, h4 with
          | [a, b, c, d], _ => exact ⟨a, b, c, d, rfl⟩
        rw [ht] at t1 ⊢
        have e1 : (!decide (wd = thingL) || (match some [a, b, c, d] with | none => true | some t => !decide (t.length = 4) || decide (i = 6))) = false := by
          rw [decide_eq_true hw2]
          show (false || (false || decide (i = 6))) = false
          rw [decide_eq_false hi]
          rfl
        rw [e1] at t1
        have e2 : (!decide (wd = thingL) || match some [a, b, c, d] with | none => true | some t => (!decide (t.length = 4) || decide (i = 6)) || lw2 ms.length t) = (!(decide (a < b) && decide (b ≤ ms.length)) || decide (c > d)) := by
          rw [decide_eq_true hw2]
          show (false || ((false || decide (i = 6)) || lw2 ms.length [a, b, c, d])) = _
          rw [decide_eq_false hi]
          rfl
        rw [e2]
        let O7 : Option Dt := dd (.tuple (natsD [a, b, c, d]))
        have t2 : RT (CxD P w K mg base N__law_read "_law_read" s__law_read f cdv A outer s H E) ⟨TT, noφ⟩ (match (loopOf ((defBody s__law_read).getD 4 (.Pass ⟨0, 0, 0, 0⟩))).getD 3 (.Pass ⟨0, 0, 0, 0⟩) with | .If c _ _ _ => c | _ => .Name "" ⟨0, 0, 0, 0⟩) (ρi W O7) (!(decide (a < b) && decide (b ≤ ms.length)) || decide (c > d)) (ρi W O7) := by
          have e3 : (!(decide (a < b) && decide (b ≤ ms.length)) || decide (c > d)) = (!(decide ((a : Int) < (b : Int)) && decide ((b : Int) ≤ ((natsD ms).length : Int))) || decide ((d : Int) < (c : Int))) := by
            rw [natsD_len]
            congr 1
            · congr 2
              · exact decide_eq_decide.mpr (by omega)
              · exact decide_eq_decide.mpr (by omega)
            · exact decide_eq_decide.mpr (by omega)
          rw [e3]
          exact rt_w (rw_or (rt_not (rt_chainT (rv_at (xs := [.int (a : Int), .int (b : Int), .int (c : Int), .int (d : Int)]) (rv_name 7) rv_int .dt rfl) (rv_at (xs := [.int (a : Int), .int (b : Int), .int (c : Int), .int (d : Int)]) (rv_name 7) rv_int .dt rfl) ov_lt (fun _ => (rv_callB (ra_cons (by first | exact rv_name 4 | exact rv_slot 4) ra_nil) (by walk_at "cvlen") T.b_len)) (fun _ => ov_le))) fun _ => rw_or1 (rt_cmp (rv_at (xs := [.int (a : Int), .int (b : Int), .int (c : Int), .int (d : Int)]) (rv_name 7) rv_int .dt rfl) (rv_at (xs := [.int (a : Int), .int (b : Int), .int (c : Int), .int (d : Int)]) (rv_name 7) rv_int .dt rfl) ov_gt))
        have etho : (!(decide (a < b) && decide (b ≤ ms.length)) || decide (c > d)) = false → thO line = [a, b, c, d] := fun hb => by
          have hb2 : badL ms.length i line = false := by
            rw [hbad]
            unfold lwB
            rw [ht, e2]
            exact hb
          obtain ⟨t, g1, g2, _⟩ := badL_some hb2
          rw [nbO_eq hwd, if_pos hw2] at g1
          have := lnO_eq 120 rr
          rw [g1, ht] at this
          have this : some [a, b, c, d] = if t.all (fun n => decide (n ≤ 120)) = true then some t else none := this
          split at this
          · rw [g2]
            exact (Option.some.inj this).symm
          · cases this
        generalize hb : (!(decide (a < b) && decide (b ≤ ms.length)) || decide (c > d)) = bb at t2 etho
        rw [ht] at s12
        cases bb with
        | false =>
          refine ⟨_, s12 (rss_weak (rss_cons (rs_if t1 (fun z => by cases z) fun _ => rss_nil) (rss_cons (rs_if t2 (fun z => by cases z) fun _ => rss_nil) (rss_one (rs_append (i := 2) (xs := CL ((r.map thO).take i)) (z := .tuple (natsD [a, b, c, d])) (ρ2 := ρi W O7) (rv_slot 2) (rv_name 7) rfl (by omega) ⟨_, rfl⟩)))) (show Wk _ (inv (i + 1)) from ?_)), .inl ⟨rfl, rfl⟩⟩
          show Wk _ (ρ0 L1 (oo (CL ((r.map thO).take (i + 1)))) none M4 none none none)
          rw [en, etho rfl]
          walk_at "wk"
        | true => exact ⟨.rt (.da (.int ((i + 2 : Nat) : Int))) (ρi W O7), s12 (rss_cons (rs_if t1 (fun z => by cases z) fun _ => rss_nil) (rss_stop (rs_if t2 (fun _ => rss_stop (rs_ret (at3 O7))) fun z => by cases z))), .inr ⟨rfl, _, rfl⟩⟩
      · have e1 : (!decide (wd = thingL) || (match lnO rr 120 with | none => true | some t => !decide (t.length = 4) || decide (i = 6))) = true ∧ (!decide (wd = thingL) || match lnO rr 120 with | none => true | some t => (!decide (t.length = 4) || decide (i = 6)) || lw2 ms.length t) = true := by
          by_cases hw2 : wd = thingL
          · rw [decide_eq_true hw2]
            cases e : lnO rr 120 with
            | none => exact ⟨rfl, rfl⟩
            | some t =>
              have : (!decide (t.length = 4) || decide (i = 6)) = true := by
                by_cases h4 : t.length = 4
                · by_cases hi : i = 6
                  · rw [decide_eq_true hi, Bool.or_true]
                  · exact absurd ⟨hw2, t, e, h4, hi⟩ ho
                · rw [decide_eq_false h4]
                  rfl
              show (false || (!decide (t.length = 4) || decide (i = 6))) = true ∧ (false || ((!decide (t.length = 4) || decide (i = 6)) || lw2 ms.length t)) = true
              rw [this]
              exact ⟨rfl, rfl⟩
          · rw [decide_eq_false hw2]
            exact ⟨rfl, rfl⟩
        rw [e1.1] at t1
        exact ⟨.rt (.da (.int ((i + 2 : Nat) : Int))) (ρi W (dd (optT (lnO rr 120)))), s12 (rss_stop (rs_if t1 (fun _ => rss_stop (rs_ret (at2 _))) fun z => by cases z)), .inr ⟨e1.2, _, rfl⟩⟩
    cases hf : fstBad ms.length r with
    | none =>
      rw [hf] at eR
      have eR : rdO l = .inr (ms, r.map thO) := eR
      have hgood : ∀ (i : Nat) (line : List Nat), r[i]? = some line → badL ms.length i line = false := fun i line h => by
        have := find_none_lt hf i (List.getElem?_eq_some_iff.mp h).1
        rwa [List.getD_eq_getElem?_getD, h] at this
      have l6 : r.length ≤ 6 := by
        refine Classical.byContradiction fun z => ?_
        have h := List.getElem?_eq_getElem (show 6 < r.length by omega)
        exact (badL_some (hgood 6 _ h)).choose_spec.2.2.2 rfl
      rw [eR]
      refine rf_cons (rs_eq (rs_for (xs := enumD (r.map TX)) inv ivx (passes_of rfl) rfl fun i x hx => ?_) (ρ2 := ρ0 L1 (oo (CL (r.map thO))) none M4 none none none) (by rw [enumD_len, List.length_map]; show ρ0 L1 (oo (CL ((r.map thO).take r.length))) none M4 none none none = _; rw [show r.length = (r.map thO).length by rw [List.length_map], List.take_length])) ?_
      · obtain ⟨y, hy, rfl⟩ := enum_at hx
        rw [List.getElem?_map] at hy
        obtain ⟨line, hline, rfl⟩ := Option.map_eq_some_iff.mp hy
        have hb := hgood i line hline
        obtain ⟨so', h1, h2⟩ := turn i line hline (by have := (List.getElem?_eq_some_iff.mp hline).1; omega)
        rcases h2 with ⟨_, rfl⟩ | ⟨z, _⟩
        · exact ⟨_, _, (gv_tup rfl (gvs_cons (tgs := []) (gv_name 5 sc__law_read.nd) (gvs_cons (tgs := []) (gv_name 6 sc__law_read.nd) gvs_nil))), .inl h1⟩
        · rw [hb] at z; cases z
      · exact rf_ret (rv_tup (xs := [_, _]) (ra_cons (rv_name 4) (ra_cons (rv_callTy (ra_cons (rv_slot 2) ra_nil) (cv_tuple (.sl rfl)) T.b_tuple) ra_nil)))
    | some k =>
      rw [hf] at eR
      have eR : rdO l = .inl (k + 2) := eR
      obtain ⟨hk, hkb, hbef⟩ := find_some_lt hf
      have hline := List.getElem?_eq_getElem hk
      rw [List.getD_eq_getElem?_getD, hline] at hkb
      have hkb : badL ms.length k r[k] = true := hkb
      have hgood : ∀ (i : Nat) (line : List Nat), i < k → r[i]? = some line → badL ms.length i line = false := fun i line hi h => by
        have := hbef i hi
        rwa [List.getD_eq_getElem?_getD, h] at this
      have k6 : k ≤ 6 := by
        refine Classical.byContradiction fun z => ?_
        have h := List.getElem?_eq_getElem (show 6 < r.length by omega)
        exact (badL_some (hgood 6 _ (by omega) h)).choose_spec.2.2.2 rfl
      rw [eR]
      obtain ⟨so', h1, h2⟩ := turn k _ hline k6
      rcases h2 with ⟨z, _⟩ | ⟨_, ρ', rfl⟩
      · rw [hkb] at z; cases z
      · have hx : (enumD (r.map TX))[k]? = some (.tuple [.int (k : Int), TX r[k]]) := enum_get (by rw [List.getElem?_map, hline]; rfl)
        refine ⟨_, rss_stop (rs_forX (so := .rt (.da (.int ((k + 2 : Nat) : Int))) ρ') k inv ivx (passes_of rfl) rfl (fun i x hi hx => ?_) (.inr ⟨_, hx, _, _, _, (gv_tup rfl (gvs_cons (tgs := []) (gv_name 5 sc__law_read.nd) (gvs_cons (tgs := []) (gv_name 6 sc__law_read.nd) gvs_nil))), h1, .rt⟩)), .da⟩
        obtain ⟨y, hy, rfl⟩ := enum_at hx
        rw [List.getElem?_map] at hy
        obtain ⟨line, hline, rfl⟩ := Option.map_eq_some_iff.mp hy
        have hb := hgood i line hi hline
        obtain ⟨so', h1, h2⟩ := turn i line hline (by omega)
        rcases h2 with ⟨_, rfl⟩ | ⟨z, _⟩
        · exact ⟨_, _, (gv_tup rfl (gvs_cons (tgs := []) (gv_name 5 sc__law_read.nd) (gvs_cons (tgs := []) (gv_name 6 sc__law_read.nd) gvs_nil))), .inl h1⟩
        · rw [hb] at z; cases z
theorem df__law_told (T : Txt P w K mg base TT C) : Df P w K mg base "_law_told" 6 ["text"] (spP K TT C "name" S_lrd) := by
  refine df_of T.f__law_told fun f fd F => ok_pure F sc__law_told (fun xs oc h => by obtain ⟨_, rfl, _⟩ := h; rfl) fun cdv A outer s H E hr xs oc hS => ?_
  obtain ⟨l, rfl, hl, rfl⟩ := hS
  refine ⟨_, rss_stop (rs_told (ρ := [dd (TX l), none]) (C := CT K) (z := rdD (rdO l)) 1 T.xt T.bt.g (fun pn xe Ec tk => ?_) sc__law_told.nd) (fun _ z => nomatch z), .da⟩
  cases h : rdO l with
  | inl k => exact .inl ⟨(k : Int), rfl, rx_callK (er := ⟨CT K, "line", Ec⟩) (xs := [_]) ["text"] [0] (df_read_houseB T) (Room.mono hr (by decide)) tk (rk_cons (by first | exact rv_name 0 | exact rv_slot 0) rk_nil) ⟨l, k, rfl, hl, h, rfl⟩⟩
  | inr r => exact .inr (rv_callK (xs := [_]) ["text"] [0] (df_read_house T) (Room.mono hr (by decide)) (rk_cons (by first | exact rv_name 0 | exact rv_slot 0) rk_nil) ⟨_, rfl, .inr ⟨l, r, rfl, hl, h, rfl⟩⟩)
end
end KX

set_option Elab.async false
set_option linter.all false
set_option maxRecDepth 100000
set_option maxHeartbeats 4000000
namespace KX
open PySem PySem.Spec PyProof.Rows L2 Dn TL
local macro_rules | `(tactic| walk_at "ovAdd") => `(tactic| first | exact ov_add | exact ov_catT (by walk_at "side"))
local macro_rules | `(tactic| walk_at "ovSub") => `(tactic| exact ov_sub)
local macro_rules | `(tactic| walk_at "ovMult") => `(tactic| first | exact ov_mul (by walk_at "side") | exact ov_mulW (by walk_at "side"))
local macro_rules | `(tactic| walk_at "ovMod") => `(tactic| exact ov_mod (by walk_at "side"))
local macro_rules | `(tactic| walk_at "ovFloorDiv") => `(tactic| first | exact ov_fdiv ⟨by omega, by omega⟩ | exact ov_fdivW (by walk_at "side"))
local macro_rules | `(tactic| walk_at "ovPow") => `(tactic| exact ov_pow ⟨by decide, by decide, by decide⟩)
local macro_rules | `(tactic| walk_at "side") => `(tactic| first | omega | assumption | (exact .inl ⟨by omega, by omega⟩) | (exact .inr ⟨by omega, by omega⟩) | decide)
local macro_rules | `(tactic| walk_at "ovLt") => `(tactic| exact ov_lt)
local macro_rules | `(tactic| walk_at "ovLtE") => `(tactic| exact ov_le)
local macro_rules | `(tactic| walk_at "ovGt") => `(tactic| exact ov_gt)
local macro_rules | `(tactic| walk_at "ovGtE") => `(tactic| exact ov_ge)
local macro_rules | `(tactic| walk_at "ovEq") => `(tactic| first | exact ov_eqI | exact ov_eqB)
local macro_rules | `(tactic| walk_at "ovNotEq") => `(tactic| first | exact ov_neI | exact ov_neB)
local macro_rules | `(tactic| walk_at "ovIs") => `(tactic| first | exact ov_isN | exact ov_isB)
local macro_rules | `(tactic| walk_at "ovIsNot") => `(tactic| first | exact ov_notN | exact ov_notB)
local macro_rules | `(tactic| walk_at "vw") => `(tactic| first | exact Vw.dl | exact Vw.dt | exact Vw.li | exact Vw.sl rfl)
local macro_rules | `(tactic| walk_at "dv") => `(tactic| first | exact Dv.da | exact Dv.li | exact Dv.sl rfl)
local macro_rules | `(tactic| walk_at "at") => `(tactic| first | rfl | assumption)
local macro_rules | `(tactic| walk_at "isi") => `(tactic| first | exact kb_int _ | exact kb_bool _ | exact kb_tuple _ | exact kb_str _)
local macro_rules | `(tactic| walk_at "room") => `(tactic| exact Room.mono (by assumption) (by decide))
local macro_rules | `(tactic| walk_at "cvlen") => `(tactic| exact cv_len (by walk_at "vw"))
local macro_rules | `(tactic| walk_at "cvabs") => `(tactic| exact cv_abs)
local macro_rules | `(tactic| walk_at "cvint") => `(tactic| exact cv_int)
local macro_rules | `(tactic| walk_at "cvmax") => `(tactic| exact cv_max2 rfl)
local macro_rules | `(tactic| walk_at "cvmin") => `(tactic| exact cv_min2 rfl)
local macro_rules | `(tactic| walk_at "cvtuple") => `(tactic| exact cv_tuple (by walk_at "vw"))
local macro_rules | `(tactic| walk_at "cvlist") => `(tactic| exact cv_list (by walk_at "vw"))
local macro_rules | `(tactic| walk_at "wk") => `(tactic| repeat (first | exact Wk.nil | refine Wk.same ?_ | refine Wk.drop ?_))
local macro_rules | `(tactic| walk_at "rng") => `(tactic| (refine ⟨?_, ?_⟩ <;> omega))

local macro_rules | `(tactic| walk_at "sp") => `(tactic| first | exact ⟨_, rfl, rfl⟩ | exact ⟨_, _, rfl, rfl⟩ | exact ⟨_, _, _, rfl, rfl⟩ | exact ⟨_, _, _, _, _, by decide, rfl, rfl⟩)
/-! drawings -/
theorem tl_dot : tl (Str.ofString ".") = [46] := by decide +kernel
theorem tl_minus : tl (Str.ofString "-") = [45] := by decide +kernel
theorem tl_plus : tl (Str.ofString "+") = [43] := by decide +kernel
theorem tl_eq : tl (Str.ofString "=") = [61] := by decide +kernel
def sgC (ps : List Int) (t : Th) : Nat := if sg ps t < t.lo then 45 else if t.hi < sg ps t then 43 else 61
def drB (ps : List Int) (t : Th) : List Nat := List.replicate t.b.toNat 46 ++ List.replicate (t.e - t.b).toNat (sgC ps t) ++ List.replicate ((ps.length : Int) - t.e).toNat 46
def drL (ps : List Int) (t : Th) : List Nat := drB ps t ++ [32] ++ nm (sg ps t)
def drLs (ps : List Int) (ts : List Th) : List (List Nat) := joinL [] (ps.map nm) :: ts.map (drL ps)
theorem sg_bd {ps : List Int} (mk : MsOk ps) (t : Th) : 0 ≤ sg ps t ∧ sg ps t ≤ 108 := by
  have key : ∀ l : List Int, (∀ i ∈ l, 0 ≤ i ∧ i ≤ 9) → 0 ≤ l.sum ∧ l.sum ≤ 9 * l.length := by
    intro l
    induction l with
    | nil => intro _; exact ⟨Int.le_refl _, by simp⟩
    | cons a l ih =>
      intro h
      have h1 := h a (.head _)
      have h2 := ih fun i hi => h i (.tail _ hi)
      rw [List.sum_cons, List.length_cons]
      omega
  have hs : ∀ i ∈ cutA ps (some t.b) (some t.e), 0 ≤ i ∧ i ≤ 9 := fun i hi => mk.ok i (List.mem_of_mem_drop (List.mem_of_mem_take hi))
  have hl : (cutA ps (some t.b) (some t.e)).length ≤ ps.length := by
    unfold cutA
    rw [List.length_take, List.length_drop]
    omega
  have := key _ hs
  have := mk.len
  unfold sg
  omega
theorem rep_len (n : Int) (c : Nat) : (List.replicate n.toNat c).length = n.toNat := List.length_replicate
section
variable {P : Program} {w : World} {K : PySem.W.Frag} {mg : Str → Option Value} {base : Heap} {TT : List (Addr × Str)} {C : Addr}
def S_dr (xs : List PyData) (oc : Oc) : Prop := ∃ z y, xs = [z, y] ∧ ((areIn z 0 12 0 9 = false ∧ oc = .err "plan") ∨ ∃ ms : List Int, z = .tuple (ms.map .int) ∧ areIn z 0 12 0 9 = true ∧ ((goodT ms.length y = false ∧ oc = .err "things") ∨ ∃ ts, y = TD ts ∧ HOk ms.length ts ∧ oc = .ret (.da (.tuple ((drLs ms ts).map TX)))))
theorem df_draw (T : Txt P w K mg base TT C) : Df P w K mg base "draw" 5 ["plan", "things"] (spP K TT C "name" S_dr) kb_draw := by
  refine df_of T.f_draw fun f fd F => ok_pure F sc_draw (fun xs oc h => by obtain ⟨_, _, rfl, _⟩ := h; rfl) fun cdv A outer s H E hr xs oc hS => ?_
  obtain ⟨z, y, rfl, hS⟩ := hS
  refine rf_dem (nm := "plan") (b := areIn z 0 12 0 9) T (by walk_at "room") takes_D (ra_cons (rv_call (xs := [_, _, _, _, _]) (df_are_in T) (by walk_at "room") (ra_cons (by first | exact rv_name 0 | exact rv_slot 0) (ra_cons rv_int (ra_cons rv_int (ra_cons rv_int (ra_cons rv_int ra_nil))))) (by walk_at "sp")) (ra_cons rv_str ra_nil)) (fun h => ?_) fun h => ?_
  · obtain ⟨ms, rfl, hz, hS⟩ : ∃ ms : List Int, z = .tuple (ms.map .int) ∧ areIn z 0 12 0 9 = true ∧ ((goodT ms.length y = false ∧ oc = .err "things") ∨ ∃ ts, y = TD ts ∧ HOk ms.length ts ∧ oc = .ret (.da (.tuple ((drLs ms ts).map TX)))) := by
      rcases hS with ⟨h1, _⟩ | h1
      · rw [h] at h1; cases h1
      · exact h1
    have mk := areIn_ms hz
    have mll := mk.len
    have e9 : (List.replicate (ms.length : Int).toNat [PyData.int 9]).flatten = (List.replicate ms.length (9 : Int)).map .int := by
      rw [rep_one, Int.toNat_natCast, List.map_replicate]
    have a9 : areIn (.tuple ((List.replicate ms.length (9 : Int)).map .int)) 0 12 0 9 = true := by
      show (isTup (.tuple ((List.replicate ms.length (9 : Int)).map .int)) 0 12 && ((List.replicate ms.length (9 : Int)).map PyData.int).all fun x => isIn x 0 9) = true
      rw [Bool.and_eq_true]
      constructor
      · show (decide ((0 : Int) ≤ (((List.replicate ms.length (9 : Int)).map PyData.int).length : Int)) && decide ((((List.replicate ms.length (9 : Int)).map PyData.int).length : Int) ≤ 12)) = true
        rw [List.length_map, List.length_replicate, decide_eq_true (by omega), decide_eq_true (by omega)]
        rfl
      · rw [List.all_map, List.all_eq_true]
        intro i hi
        rw [(List.mem_replicate.mp hi).2]
        rfl
    refine rf_dh (z := .tuple ((List.replicate ms.length (9 : Int)).map .int)) (y := y) T (by walk_at "room") takes_D (ra_cons (rv_eqD (rv_bin (rv_tup (xs := [_]) (ra_cons rv_int ra_nil)) (rv_eqD (rv_callB (ra_cons (by first | exact rv_name 0 | exact rv_slot 0) ra_nil) (by walk_at "cvlen") T.b_len) (by rw [List.length_map])) (ov_mulT0 (by simp) (by omega) (by omega) (by decide))) (congrArg PyData.tuple e9)) (ra_cons (by first | exact rv_name 1 | exact rv_slot 1) ra_nil)) ?_
    rcases hS with ⟨h1, rfl⟩ | ⟨ts, rfl, hk, rfl⟩
    · exact .inl (.inr ⟨_, rfl, a9, by rw [List.length_replicate]; exact h1, rfl⟩)
    refine .inr ⟨⟨_, rfl, a9, by rw [List.length_replicate]; exact goodT_ok hk⟩, ?_⟩
    let ρ0 : Option Dt → Option Dt → Option Dt → Option Dt → Option Dt → Option Dt → Option Dt → Option Dt → Rho := fun ln b e lo hi sm sn on => [dd (.tuple (ms.map .int)), dd (TD ts), ln, b, e, lo, hi, sm, sn, on]
    have pm : (ms.map PyData.int).map stP = (ms.map nm).map TX := by rw [List.map_map, List.map_map]; rfl
    refine rf_cons (rs_setL 2 (zs := [TX (joinL [] (ms.map nm))]) (ρ1 := ρ0 none none none none none none none none) (rv_lst (xs := [_]) (ra_cons (rv_joinX (rv_strE tl_no) (rv_eqL (RC.rv (rc_map (own := [("one", 9)]) (xs := ms.map .int) (ρ1 := ρ0 none none none none none none none none) stP rfl sc_draw.nd (iv_eq2 (by first | exact iv_tup (by first | exact rv_name 0 | exact rv_slot 0) | exact iv_list (by first | exact rv_name 0 | exact rv_slot 0) | exact iv_list (rv_settle (by first | exact rv_name 0 | exact rv_slot 0))) rfl rfl) (blkOk_by (N := N_draw) (sc := defScope s_draw) (by decide +kernel)) rfl (by rw [List.length_map]; omega) (fun i x hx => ?_))) pm) .li ?_) ra_nil)) sc_draw.nd) ?_
    · rw [List.getElem?_map] at hx
      obtain ⟨i', hi', rfl⟩ := Option.map_eq_some_iff.mp hx
      have := mk.ok i' (List.mem_of_getElem? hi')
      exact ⟨ρ0 none none none none none none none (dd (.int i')), _, fun j hj => hj, fun s H C cl fp => (gv_name 9 sc_draw.nd), by walk_at "wk", _, fun s H C cl fp => rv_callTy (ra_cons (rv_eqD (rv_name 9) (congrArg PyData.int (show i' = (i'.toNat : Int) by omega))) ra_nil) (cv_strN (by omega)) T.b_str, by walk_at "wk"⟩
    · have := sum_le (l := ms.map nm) (k := 3) fun p hp => by
        obtain ⟨i, hi, rfl⟩ := List.mem_map.mp hp
        exact nm_len (by have := mk.ok i hi; omega)
      rw [List.length_map] at this ⊢
      show _ + ms.length * 0 ≤ 100000
      omega
    have eL : ∀ i, (drLs ms ts).take (i + 1) = joinL [] (ms.map nm) :: (ts.take i).map (drL ms) := fun i => by unfold drLs; rw [List.take_succ_cons, List.map_take]
    refine rf_cons (rs_eq (rs_for (xs := ts.map tD) (fun i => ρ0 (oo (((drLs ms ts).take (i + 1)).map TX)) none none none none none none none) (iv_eq2 (by first | exact iv_tup (by first | exact rv_name 1 | exact rv_slot 1) | exact iv_list (by first | exact rv_name 1 | exact rv_slot 1) | exact iv_list (rv_settle (by first | exact rv_name 1 | exact rv_slot 1))) rfl (by rw [eL]; rfl)) (passes_of rfl) rfl fun i x hx => ?_) (ρ2 := ρ0 (oo ((drLs ms ts).map TX)) none none none none none none none) (by rw [List.length_map]; show ρ0 (oo (((drLs ms ts).take (ts.length + 1)).map TX)) none none none none none none none = _; rw [show ts.length + 1 = (drLs ms ts).length by unfold drLs; rw [List.length_cons, List.length_map], List.take_length])) ?_
    · rw [List.getElem?_map] at hx
      obtain ⟨t, ht, rfl⟩ := Option.map_eq_some_iff.mp hx
      have tk := hk.ok t (List.mem_of_getElem? ht)
      have til := (List.getElem?_eq_some_iff.mp ht).1
      have hts := hk.len
      have sgb := sg_bd mk t
      have tb0 := tk.b0; have tb1 := tk.b1; have te0 := tk.e0; have te1 := tk.e1
      have en : ((drLs ms ts).take (i + 1 + 1)).map TX = ((drLs ms ts).take (i + 1)).map TX ++ [TX (drL ms t)] := by
        rw [eL, eL, List.take_add_one, ht]
        simp
      rw [en]
      have ll : (((drLs ms ts).take (i + 1)).map TX).length ≤ 10 := by
        rw [eL, List.length_map, List.length_cons, List.length_map, List.length_take]
        omega
      generalize ((drLs ms ts).take (i + 1)).map TX = L at ll
      let ρi : Option Dt → Option Dt → Rho := fun sm sn => ρ0 (oo L) (dd (.int t.b)) (dd (.int t.e)) (dd (.int t.lo)) (dd (.int t.hi)) sm sn none
      refine ⟨ρi none none, _, (gv_tup rfl (gvs_cons (tgs := []) (gv_name 3 sc_draw.nd) (gvs_cons (tgs := []) (gv_name 4 sc_draw.nd) (gvs_cons (tgs := []) (gv_name 5 sc_draw.nd) (gvs_cons (tgs := []) (gv_name 6 sc_draw.nd) gvs_nil))))), .inl ?_⟩
      refine rss_cons (rs_set 7 (z := .int (sg ms t)) (ρ1 := ρi none none) (rv_callB (ra_cons (rv_eqD (rv_cutT (rv_name 0) (ro_some (rv_name 3)) (ro_some (rv_name 4))) (congrArg PyData.tuple (cutA_map PyData.int ms (some t.b) (some t.e)))) ra_nil) (cv_sumT rfl) T.b_sum) sc_draw.nd) ?_
      refine rss_cons (rs_set 8 (z := TX [sgC ms t]) (ρ1 := ρi (dd (.int (sg ms t))) none) (rv_if (k1 := decide (sg ms t < t.lo)) (ρ1 := ρi (dd (.int (sg ms t))) none) (rt_cmp (by first | exact rv_name 7 | exact rv_slot 7) (by first | exact rv_name 5 | exact rv_slot 5) (by walk_at "ovLt")) (fun h => rv_eqD (rv_strE tl_minus) (by unfold sgC; rw [if_pos (of_decide_eq_true h)])) (fun h => rv_if (k1 := decide (t.hi < sg ms t)) (ρ1 := ρi (dd (.int (sg ms t))) none) (rt_cmp (by first | exact rv_name 7 | exact rv_slot 7) (by first | exact rv_name 6 | exact rv_slot 6) (by walk_at "ovGt")) (fun h2 => rv_eqD (rv_strE tl_plus) (by unfold sgC; rw [if_neg (of_decide_eq_false h), if_pos (of_decide_eq_true h2)])) (fun h2 => rv_eqD (rv_strE tl_eq) (by unfold sgC; rw [if_neg (of_decide_eq_false h), if_neg (of_decide_eq_false h2)])))) sc_draw.nd) ?_
      have r1 := rep_len t.b 46
      have r2 := rep_len (t.e - t.b) (sgC ms t)
      have r3 := rep_len ((ms.length : Int) - t.e) 46
      have fl : ∀ (k : Int) (c : Nat), TX (List.replicate k.toNat [c]).flatten = TX (List.replicate k.toNat c) := fun k c => by rw [rep_one]
      have rp : ∀ (k : Int) (c : Nat), k ≤ 12 → ([c] : List Nat).length * k.toNat ≤ 100000 := fun k c h => by
        show 1 * k.toNat ≤ 100000
        omega
      have nl : (nm (sg ms t)).length ≤ 3 := nm_len (by omega)
      refine rss_weak (rss_one (rs_append (i := 2) (xs := L) (z := TX (drL ms t)) (ρ2 := ρi (dd (.int (sg ms t))) (dd (TX [sgC ms t]))) (rv_slot 2) ?_ rfl (by omega) ⟨_, rfl⟩)) (by walk_at "wk")
      refine rv_bin (rv_bin (rv_bin (rv_bin (rv_eqD (rv_bin (rv_strE tl_dot) (rv_name 3) (ov_repX (by decide) (by omega) (by omega) (rp _ _ (by omega)))) (fl _ _)) (rv_eqD (rv_bin (rv_name 8) (rv_bin (by first | exact rv_name 4 | exact rv_slot 4) (by first | exact rv_name 3 | exact rv_slot 3) (by walk_at "ovSub")) (ov_repX (by show 1 ≤ 10000; decide) (by omega) (by omega) (rp _ _ (by omega)))) (fl _ _)) (ov_catX (by rw [r1, r2]; omega))) (rv_eqD (rv_bin (rv_strE tl_dot) (rv_eqD (rv_bin (rv_callB (ra_cons (by first | exact rv_name 0 | exact rv_slot 0) ra_nil) (by walk_at "cvlen") T.b_len) (by first | exact rv_name 4 | exact rv_slot 4) (by walk_at "ovSub")) (show _ = PyData.int ((ms.length : Int) - t.e) by rw [List.length_map])) (ov_repX (by decide) (by omega) (by omega) (rp _ _ (by omega)))) (fl _ _)) (ov_catX (by rw [List.length_append, r1, r2, r3]; omega))) (rv_strE tl_sp) (ov_catX (by rw [List.length_append, List.length_append, r1, r2, r3]; show _ + 1 ≤ _; omega))) (rv_callTy (ra_cons (rv_eqD (rv_name 7) (congrArg PyData.int (show sg ms t = ((sg ms t).toNat : Int) by omega))) ra_nil) (cv_strN (by omega)) T.b_str) (ov_catX (by rw [List.length_append, List.length_append, List.length_append, r1, r2, r3]; show _ + 1 + (nm (sg ms t)).length ≤ _; omega))
    · exact rf_ret (rv_callTy (ra_cons (rv_slot 2) ra_nil) (cv_tuple (.sl rfl)) T.b_tuple)
  · rcases hS with ⟨_, e⟩ | ⟨ms, _, h1, _⟩
    · exact e
    · rw [h] at h1; cases h1
end
end KX

set_option Elab.async false
set_option linter.all false
set_option maxRecDepth 100000
set_option maxHeartbeats 4000000
namespace KX
open PySem PySem.Spec PyProof.Rows L2 Dn TL
local macro_rules | `(tactic| walk_at "ovAdd") => `(tactic| first | exact ov_add | exact ov_catT (by walk_at "side"))
local macro_rules | `(tactic| walk_at "ovSub") => `(tactic| exact ov_sub)
local macro_rules | `(tactic| walk_at "ovMult") => `(tactic| first | exact ov_mul (by walk_at "side") | exact ov_mulW (by walk_at "side"))
local macro_rules | `(tactic| walk_at "ovMod") => `(tactic| exact ov_mod (by walk_at "side"))
local macro_rules | `(tactic| walk_at "ovFloorDiv") => `(tactic| first | exact ov_fdiv ⟨by omega, by omega⟩ | exact ov_fdivW (by walk_at "side"))
local macro_rules | `(tactic| walk_at "ovPow") => `(tactic| exact ov_pow ⟨by decide, by decide, by decide⟩)
local macro_rules | `(tactic| walk_at "side") => `(tactic| first | omega | assumption | (exact .inl ⟨by omega, by omega⟩) | (exact .inr ⟨by omega, by omega⟩) | decide)
local macro_rules | `(tactic| walk_at "ovLt") => `(tactic| exact ov_lt)
local macro_rules | `(tactic| walk_at "ovLtE") => `(tactic| exact ov_le)
local macro_rules | `(tactic| walk_at "ovGt") => `(tactic| exact ov_gt)
local macro_rules | `(tactic| walk_at "ovGtE") => `(tactic| exact ov_ge)
local macro_rules | `(tactic| walk_at "ovEq") => `(tactic| first | exact ov_eqI | exact ov_eqB)
local macro_rules | `(tactic| walk_at "ovNotEq") => `(tactic| first | exact ov_neI | exact ov_neB)
local macro_rules | `(tactic| walk_at "ovIs") => `(tactic| first | exact ov_isN | exact ov_isB)
local macro_rules | `(tactic| walk_at "ovIsNot") => `(tactic| first | exact ov_notN | exact ov_notB)
local macro_rules | `(tactic| walk_at "vw") => `(tactic| first | exact Vw.dl | exact Vw.dt | exact Vw.li | exact Vw.sl rfl)
local macro_rules | `(tactic| walk_at "dv") => `(tactic| first | exact Dv.da | exact Dv.li | exact Dv.sl rfl)
local macro_rules | `(tactic| walk_at "at") => `(tactic| first | rfl | assumption)
local macro_rules | `(tactic| walk_at "isi") => `(tactic| first | exact kb_int _ | exact kb_bool _ | exact kb_tuple _ | exact kb_str _)
local macro_rules | `(tactic| walk_at "room") => `(tactic| exact Room.mono (by assumption) (by decide))
local macro_rules | `(tactic| walk_at "cvlen") => `(tactic| exact cv_len (by walk_at "vw"))
local macro_rules | `(tactic| walk_at "cvabs") => `(tactic| exact cv_abs)
local macro_rules | `(tactic| walk_at "cvint") => `(tactic| exact cv_int)
local macro_rules | `(tactic| walk_at "cvmax") => `(tactic| exact cv_max2 rfl)
local macro_rules | `(tactic| walk_at "cvmin") => `(tactic| exact cv_min2 rfl)
local macro_rules | `(tactic| walk_at "cvtuple") => `(tactic| exact cv_tuple (by walk_at "vw"))
local macro_rules | `(tactic| walk_at "cvlist") => `(tactic| exact cv_list (by walk_at "vw"))
local macro_rules | `(tactic| walk_at "wk") => `(tactic| repeat (first | exact Wk.nil | refine Wk.same ?_ | refine Wk.drop ?_))
local macro_rules | `(tactic| walk_at "rng") => `(tactic| (refine ⟨?_, ?_⟩ <;> omega))

local macro_rules | `(tactic| walk_at "sp") => `(tactic| first | exact ⟨_, rfl, rfl⟩ | exact ⟨_, _, rfl, rfl⟩ | exact ⟨_, _, _, rfl, rfl⟩ | exact ⟨_, _, _, _, _, by decide, rfl, rfl⟩)
local macro_rules | `(tactic| walk_at "rl") => `(tactic| assumption)
local macro_rules | `(tactic| walk_at "pk") => `(tactic| assumption)
/-! drawn houses -/
def p2 (d : Dice) : Int := if rollV d 2 = 0 then 5 else 121
theorem pick2_S {k : Nat} {d : Dice} (h : Dok k d) (hk : k ≤ 1000000) : S_pick d.l [.list [.int 5, .int 121]] (.ret (.da (.int (p2 d)))) (rollS d 2).l := by
  refine ⟨k, d, [.int 5, .int 121], .int (p2 d), hk, h, Nat.zero_lt_succ _, (by show 2 < 1000000; decide), rfl, rfl, ?_, rfl, rfl⟩
  have hr := roll_in (d := d) (n := 2) (by decide)
  show [PyData.int 5, .int 121][(rollV d 2).toNat]? = _
  unfold p2
  by_cases h0 : rollV d 2 = 0
  · rw [if_pos h0, h0]; rfl
  · have e : rollV d 2 = 1 := by omega
    rw [if_neg h0, e]; rfl
theorem p2_or (d : Dice) : p2 d = 5 ∨ p2 d = 121 := by
  unfold p2
  split
  · exact .inl rfl
  · exact .inr rfl
/-- rolls for a thing: begin, the bound of low, low, end, high -/
def hB (d : Dice) (n : Int) : Int := rollV d n
def hd2 (d : Dice) (n : Int) : Dice := rollS (rollS d n) 2
def hLo (d : Dice) (n : Int) : Int := rollV (hd2 d n) (p2 (rollS d n))
def hd3 (d : Dice) (n : Int) : Dice := rollS (hd2 d n) (p2 (rollS d n))
def hEn (d : Dice) (n : Int) : Int := hB d n + 1 + rollV (hd3 d n) (n - hB d n)
def hd4 (d : Dice) (n : Int) : Dice := rollS (hd3 d n) (n - hB d n)
def hHi (d : Dice) (n : Int) : Int := hLo d n + rollV (hd4 d n) (121 - hLo d n)
def hd5 (d : Dice) (n : Int) : Dice := rollS (hd4 d n) (121 - hLo d n)
def hTh (d : Dice) (n : Int) : Th := ⟨hB d n, hEn d n, hLo d n, hHi d n⟩
def hN (d : Dice) (n : Int) : Nat → Dice
  | 0 => d
  | i + 1 => hd5 (hN d n i) n
theorem hTh_ok {d : Dice} {n : Int} (hn : 0 < n) : TOk n (hTh d n) ∧ 0 ≤ hLo d n ∧ hLo d n ≤ 120 := by
  have r1 := roll_in (d := d) hn
  have hp := p2_or (rollS d n)
  have r2 := roll_in (d := hd2 d n) (n := p2 (rollS d n)) (by omega)
  have r3 := roll_in (d := hd3 d n) (n := n - hB d n) (by show 0 < n - rollV d n; omega)
  have hlo : 0 ≤ hLo d n ∧ hLo d n ≤ 120 := by
    show 0 ≤ rollV (hd2 d n) (p2 (rollS d n)) ∧ rollV (hd2 d n) (p2 (rollS d n)) ≤ 120
    omega
  have r4 := roll_in (d := hd4 d n) (n := 121 - hLo d n) (by omega)
  have eb : hB d n = rollV d n := rfl
  refine ⟨⟨r1.1, r1.2, ?_, ?_, hlo.1, hlo.2, ?_, ?_⟩, hlo⟩
  · show hB d n < hB d n + 1 + rollV (hd3 d n) (n - hB d n)
    omega
  · show hB d n + 1 + rollV (hd3 d n) (n - hB d n) ≤ n
    omega
  · show hLo d n ≤ hLo d n + rollV (hd4 d n) (121 - hLo d n)
    omega
  · show hLo d n + rollV (hd4 d n) (121 - hLo d n) ≤ 120
    omega
theorem hd5_ok {k : Nat} {d : Dice} {n : Int} (h : Dok k d) (hn : 0 < n) : Dok (k + 5) (hd5 d n) := by
  have r1 := roll_in (d := d) hn
  have hp := p2_or (rollS d n)
  have t := (hTh_ok (d := d) hn).2
  exact roll_ok (roll_ok (roll_ok (roll_ok (roll_ok h hn) (by decide)) (by omega)) (by show 0 < n - rollV d n; omega)) (by omega)
theorem hN_ok {k : Nat} {d : Dice} {n : Int} (h : Dok k d) (hn : 0 < n) : ∀ i, Dok (k + 5 * i) (hN d n i)
  | 0 => h
  | i + 1 => hd5_ok (hN_ok h hn i) hn
def rlN (d : Dice) (n : Int) : Nat → Dice
  | 0 => d
  | i + 1 => rollS (rlN d n i) n
theorem rlN_ok {k : Nat} {d : Dice} {n : Int} (h : Dok k d) (hn : 0 < n) : ∀ i, Dok (k + i) (rlN d n i)
  | 0 => h
  | i + 1 => roll_ok (rlN_ok h hn i) hn
/-- how many things -/
def hM (d : Dice) : Nat := if 0 < rollV d 13 then (rollV (rollS d 13) 7).toNat else 0
def h0 (d : Dice) : Dice := if 0 < rollV d 13 then rollS (rollS d 13) 7 else rollS d 13
def lhT (d : Dice) : List Th := (List.range (hM d)).map fun i => hTh (hN (h0 d) (rollV d 13) i) (rollV d 13)
def lhD (d : Dice) : Dice := hN (h0 d) (rollV d 13) (hM d)
def lhM (d : Dice) : List Int := (List.range (rollV d 13).toNat).map fun i => rollV (rlN (lhD d) 10 i) 10
def lhE (d : Dice) : Dice := rlN (lhD d) 10 (rollV d 13).toNat
theorem hM_le (d : Dice) : hM d ≤ 6 ∧ (0 < hM d → 0 < rollV d 13) := by
  unfold hM
  split
  · have := roll_in (d := rollS d 13) (n := 7) (by decide)
    exact ⟨by omega, fun _ => by assumption⟩
  · exact ⟨by omega, fun h => by omega⟩
theorem h0_ok {k : Nat} {d : Dice} (h : Dok k d) : Dok (k + 2) (h0 d) := by
  unfold h0
  split
  · exact roll_ok (roll_ok h (by decide)) (by decide)
  · exact Dok.le (roll_ok h (by decide)) (by omega)
theorem lhD_ok {k : Nat} {d : Dice} (h : Dok k d) : Dok (k + 32) (lhD d) := by
  have hm := hM_le d
  unfold lhD
  by_cases hp : 0 < rollV d 13
  · exact Dok.le (hN_ok (h0_ok h) hp _) (by omega)
  · have : hM d = 0 := by
      have := hm.2
      omega
    rw [this]
    exact Dok.le (h0_ok h) (by omega)
theorem lhE_ok {k : Nat} {d : Dice} (h : Dok k d) : Dok (k + 45) (lhE d) := by
  have := roll_in (d := d) (n := 13) (by decide)
  exact Dok.le (rlN_ok (lhD_ok h) (by decide) _) (by omega)
theorem lhM_len (d : Dice) : (lhM d).length = (rollV d 13).toNat := by unfold lhM; rw [List.length_map, List.length_range]
theorem lhM_ok (d : Dice) : MsOk (lhM d) := by
  have := roll_in (d := d) (n := 13) (by decide)
  refine ⟨by rw [lhM_len]; omega, fun i hi => ?_⟩
  obtain ⟨j, _, rfl⟩ := List.mem_map.mp hi
  have := roll_in (d := rlN (lhD d) 10 j) (n := 10) (by decide)
  omega
theorem lhT_ok (d : Dice) : HOk ((lhM d).length : Int) (lhT d) := by
  have r := roll_in (d := d) (n := 13) (by decide)
  have hm := hM_le d
  rw [lhM_len, Int.toNat_of_nonneg r.1]
  refine ⟨by unfold lhT; rw [List.length_map, List.length_range]; exact hm.1, fun t ht => ?_⟩
  obtain ⟨i, hi, rfl⟩ := List.mem_map.mp ht
  have hi := List.mem_range.mp hi
  exact (hTh_ok (hm.2 (by omega))).1
section
variable {P : Program} {w : World} {K : PySem.W.Frag} {mg : Str → Option Value} {base : Heap} {TT : List (Addr × Str)} {C : Addr}
def S_lh (zs xs : List PyData) (oc : Oc) (zs' : List PyData) : Prop := ∃ (k : Nat) (d : Dice), k ≤ 4000 ∧ Dok k d ∧ zs = d.l ∧ xs = [] ∧ oc = .ret (.da (.tuple [.tuple ((lhM d).map .int), TD (lhT d)])) ∧ zs' = (lhE d).l
theorem df__law_house (T : Txt P w K mg base TT C) : Df P w K mg base "_law_house" 4 ["dice"] (spO K TT C "name" S_lh) := by
  refine df_of T.f__law_house fun f fd F => ok_own (N := ["days", "found", "turn", "begin", "low", "day"]) (ps := []) F sc__law_house (fun zs xs oc zs' h => by obtain ⟨_, _, _, _, _, rfl, _⟩ := h; rfl) fun cdv A outer s H E l hr zs xs oc zs' hS => ?_
  obtain ⟨k, d, hk, ok, rfl, rfl, rfl, rfl⟩ := hS
  have r := roll_in (d := d) (n := 13) (by decide)
  have rl := roll_S (n := 13) ok (by omega) (by decide) (by decide)
  have k1 := roll_ok (n := 13) ok (by decide)
  have hm := hM_le d
  have k2 := lhD_ok ok
  obtain ⟨n, en, hn⟩ : ∃ n : Nat, rollV d 13 = (n : Int) ∧ n ≤ 12 := ⟨(rollV d 13).toNat, by omega, by omega⟩
  let ρ0 : Dice → List Th → Option Dt → Option Dt → Option Dt → Option Dt → Rho := fun d ts tu b lo da => [oo d.l, dd (.int (n : Int)), oo (ts.map tD), tu, b, lo, da]
  have eM : (lhM d).map PyData.int = (List.range (rngD 0 n).length).map fun i => PyData.int (rollV (rlN (lhD d) 10 i) 10) := by
    unfold lhM
    rw [en, Int.toNat_natCast, rngD_len, List.map_map]
    rfl
  have eE : lhE d = rlN (lhD d) 10 (rngD 0 n).length := by
    unfold lhE
    rw [en, Int.toNat_natCast, rngD_len]
  refine ⟨.da (.tuple [.tuple ((lhM d).map .int), TD (lhT d)]), ρ0 (lhE d) (lhT d) none none none none, ?_, rfl, rfl, fun _ h => nomatch h⟩
  rw [en] at rl
  refine rss_cons (rs_par 1 2 (ra := .da (.int (n : Int))) (rb := .li []) (ρ1 := [oo (rollS d 13).l, none, none, none, none, none, none]) (rv_callO (xs := [_]) 0 (df__law_roll T) (by walk_at "room") (ra_cons (by first | exact rv_name 0 | exact rv_slot 0) (ra_cons rv_int ra_nil)) (by rfl) (by walk_at "rl")) (rv_lst (xs := []) ra_nil) rfl sc__law_house.nd) ?_
  have eT : ∀ i, (List.range i).map (fun j => hTh (hN (h0 d) (n : Int) j) (n : Int)) = (List.range i).map fun j => hTh (hN (h0 d) (rollV d 13) j) (rollV d 13) := fun i => by rw [en]
  refine rss_cons (rs_eq (rs_for (xs := rngD 0 (hM d)) (fun i => ρ0 (hN (h0 d) (n : Int) i) ((List.range i).map fun j => hTh (hN (h0 d) (n : Int) j) (n : Int)) none none none none) ?_ (passes_of rfl) rfl fun i x hx => ?_) (ρ2 := ρ0 (lhD d) (lhT d) none none none none) (by rw [rngD_len, eT]; unfold lhD lhT; rw [en])) ?_
  · clear rl
    by_cases hp : 0 < n
    · have e1 : hM d = (rollV (rollS d 13) 7).toNat := if_pos (by omega)
      have e2 : h0 d = rollS (rollS d 13) 7 := if_pos (by omega)
      have r7 := roll_in (d := rollS d 13) (n := 7) (by decide)
      have rl := roll_S (n := 7) k1 (by omega) (by decide) (by decide)
      rw [e1, e2]
      exact iv_eq2 (iv_range1 (k := rollV (rollS d 13) 7) T.b_range (ra_cons (rv_if (k1 := true) (ρ1 := ρ0 (rollS d 13) [] none none none none) (ρ2 := ρ0 (rollS (rollS d 13) 7) [] none none none none) (rt_eq (a := decide (0 < (n : Int))) (rt_cmp (by first | exact rv_name 1 | exact rv_slot 1) rv_int (by walk_at "ovGt")) (decide_eq_true (by omega))) (fun _ => (rv_callO (xs := [_]) 0 (df__law_roll T) (by walk_at "room") (ra_cons (by first | exact rv_name 0 | exact rv_slot 0) (ra_cons rv_int ra_nil)) (by rfl) (by walk_at "rl"))) (fun h => by cases h)) ra_nil) ⟨by omega, by omega⟩) rfl rfl
    · have e1 : hM d = 0 := if_neg (by omega)
      have e2 : h0 d = rollS d 13 := if_neg (by omega)
      rw [e1, e2]
      exact iv_eq2 (iv_range1 (k := 0) T.b_range (ra_cons (rv_if (k1 := false) (ρ1 := ρ0 (rollS d 13) [] none none none none) (ρ2 := ρ0 (rollS d 13) [] none none none none) (rt_eq (a := decide (0 < (n : Int))) (rt_cmp (by first | exact rv_name 1 | exact rv_slot 1) rv_int (by walk_at "ovGt")) (decide_eq_false (by omega))) (fun h => by cases h) (fun _ => rv_int)) ra_nil) ⟨by decide, by decide⟩) rfl rfl
  · clear rl
    obtain ⟨rfl, hi⟩ := rngD_get' hx
    have hp : 0 < (n : Int) := by
      have := hm.2 (by omega)
      omega
    have kd := hN_ok (h0_ok ok) hp i
    have e1 : ((List.range (i + 1)).map fun j => hTh (hN (h0 d) (n : Int) j) (n : Int)).map tD = ((List.range i).map fun j => hTh (hN (h0 d) (n : Int) j) (n : Int)).map tD ++ [tD (hTh (hN (h0 d) (n : Int) i) (n : Int))] := by
      rw [List.range_succ, List.map_append, List.map_append]
      rfl
    show ∃ ρ' js, _ ∧ (RSs _ _ _ _ ρ' (.nx [oo (hd5 (hN (h0 d) (n : Int) i) (n : Int)).l, _, oo (((List.range (i + 1)).map fun j => hTh (hN (h0 d) (n : Int) j) (n : Int)).map tD), none, none, none, none]) ∨ _)
    rw [e1]
    have fl : (((List.range i).map fun j => hTh (hN (h0 d) (n : Int) j) (n : Int)).map tD).length ≤ 6 := by rw [List.length_map, List.length_map, List.length_range]; omega
    show ∃ ρ' js, GV _ _ _ _ [oo (hN (h0 d) (n : Int) i).l, _, oo (((List.range i).map fun j => hTh (hN (h0 d) (n : Int) j) (n : Int)).map tD), none, none, none, none] ρ' js ∧ _
    generalize ((List.range i).map fun j => hTh (hN (h0 d) (n : Int) j) (n : Int)).map tD = fo at fl
    generalize hN (h0 d) (n : Int) i = e at kd
    have tk := hTh_ok (d := e) hp
    have r1 := roll_in (d := e) hp
    have rlA := roll_S (n := (n : Int)) kd (by omega) hp (by omega)
    have kA := roll_ok (n := (n : Int)) kd hp
    have pk := pick2_S kA (by omega)
    have kB := roll_ok (n := 2) kA (by decide)
    have hp2 := p2_or (rollS e (n : Int))
    have rlB := roll_S (n := p2 (rollS e (n : Int))) kB (by omega) (by omega) (by omega)
    have kC := roll_ok (n := p2 (rollS e (n : Int))) kB (by omega)
    have rlC := roll_S (n := (n : Int) - rollV e (n : Int)) kC (by omega) (by omega) (by omega)
    have kD := roll_ok (n := (n : Int) - rollV e (n : Int)) kC (by omega)
    have rlD := roll_S (n := 121 - hLo e (n : Int)) kD (by omega) (by omega) (by omega)
    let ρi : Dice → Option Dt → Option Dt → Rho := fun d b lo => [oo d.l, dd (.int (n : Int)), oo fo, dd (.int (i : Int)), b, lo, none]
    refine ⟨ρi e none none, _, (gv_name 3 sc__law_house.nd), .inl ?_⟩
    refine rss_cons (rs_set 4 (z := .int (hB e (n : Int))) (ρ1 := ρi (rollS e (n : Int)) none none) (rv_callO (xs := [_]) 0 (df__law_roll T) (by walk_at "room") (ra_cons (by first | exact rv_name 0 | exact rv_slot 0) (ra_cons (by first | exact rv_name 1 | exact rv_slot 1) ra_nil)) (by rfl) (by walk_at "rl")) sc__law_house.nd) ?_
    refine rss_cons (rs_set 5 (z := .int (hLo e (n : Int))) (ρ1 := ρi (hd3 e (n : Int)) (dd (.int (hB e (n : Int)))) none) (rv_callO (xs := [_]) 0 (df__law_roll T) (by walk_at "room") (ra_cons (ρ1 := ρi (rollS e (n : Int)) (dd (.int (hB e (n : Int)))) none) (rv_slot 0) (ra_cons (ρ1 := ρi (hd2 e (n : Int)) (dd (.int (hB e (n : Int)))) none) (rv_callO (xs := [_]) 0 (df__law_pick T) (by walk_at "room") (ra_cons (by first | exact rv_name 0 | exact rv_slot 0) (ra_cons (rv_settle (rv_lst (xs := [_, _]) (ra_cons rv_int (ra_cons rv_int ra_nil)))) ra_nil)) (by rfl) (by walk_at "pk")) ra_nil)) (by rfl) rlB) sc__law_house.nd) ?_
    refine rss_weak (rss_one (rs_append (i := 2) (xs := fo) (z := tD (hTh e (n : Int))) (ρ2 := ρi (hd5 e (n : Int)) (dd (.int (hB e (n : Int)))) (dd (.int (hLo e (n : Int))))) (rv_slot 2) (rv_tup (xs := [.int (hB e (n : Int)), .int (hEn e (n : Int)), .int (hLo e (n : Int)), .int (hHi e (n : Int))]) (ra_cons (ρ1 := ρi (hd3 e (n : Int)) (dd (.int (hB e (n : Int)))) (dd (.int (hLo e (n : Int))))) (by first | exact rv_name 4 | exact rv_slot 4) (ra_cons (ρ1 := ρi (hd4 e (n : Int)) (dd (.int (hB e (n : Int)))) (dd (.int (hLo e (n : Int))))) (rv_bin (rv_bin (by first | exact rv_name 4 | exact rv_slot 4) rv_int (by walk_at "ovAdd")) (rv_callO (xs := [_]) 0 (df__law_roll T) (by walk_at "room") (ra_cons (by first | exact rv_name 0 | exact rv_slot 0) (ra_cons (rv_bin (by first | exact rv_name 1 | exact rv_slot 1) (by first | exact rv_name 4 | exact rv_slot 4) (by walk_at "ovSub")) ra_nil)) (by rfl) (by walk_at "rl")) (by walk_at "ovAdd")) (ra_cons (by first | exact rv_name 5 | exact rv_slot 5) (ra_cons (ρ1 := ρi (hd5 e (n : Int)) (dd (.int (hB e (n : Int)))) (dd (.int (hLo e (n : Int))))) (rv_bin (by first | exact rv_name 5 | exact rv_slot 5) (rv_callO (xs := [_]) 0 (df__law_roll T) (by walk_at "room") (ra_cons (by first | exact rv_name 0 | exact rv_slot 0) (ra_cons (rv_bin rv_int (by first | exact rv_name 5 | exact rv_slot 5) (by walk_at "ovSub")) ra_nil)) (by rfl) (by walk_at "rl")) (by walk_at "ovAdd")) ra_nil))))) rfl (by omega) ⟨_, rfl⟩)) (by walk_at "wk")
  · refine rss_one (rs_ret (rv_tup (xs := [_, _]) (ra_cons (ρ1 := ρ0 (lhE d) (lhT d) none none none none) ?_ (ra_cons (rv_callTy (ra_cons (by first | exact rv_name 2 | exact rv_slot 2) ra_nil) (by walk_at "cvtuple") T.b_tuple) ra_nil))))
    rw [eM, eE]
    refine rv_callTy (ra_cons (RC.rv (rc_lc (own := [("day", 6)]) (xs := rngD 0 n) (ρ1 := ρ0 (lhD d) (lhT d) none none none none) (fun i => ρ0 (rlN (lhD d) 10 i) (lhT d) none none none none) (fun i => (List.range i).map fun j => PyData.int (rollV (rlN (lhD d) 10 j) 10)) rfl sc__law_house.nd (iv_eq2 (iv_range1 (k := (n : Int)) T.b_range (ra_cons (by first | exact rv_name 1 | exact rv_slot 1) ra_nil) ⟨by omega, by omega⟩) (by rw [Int.toNat_natCast]) rfl) (blkOk_by (N := N__law_house) (sc := defScope s__law_house) (by decide +kernel)) rfl rfl (fun i j hj z e => ?_) (fun j hj => ?_) (fun i hi => ?_) (fun i x hx => ?_))) ra_nil) (cv_tuple .li) T.b_tuple
    · obtain rfl := List.mem_singleton.mp hj
      cases e
    · obtain rfl := List.mem_singleton.mp hj
      rfl
    · rw [rngD_len] at hi
      rw [List.length_map, List.length_range]
      omega
    · clear rl
      obtain ⟨rfl, hi⟩ := rngD_get' hx
      have kd := rlN_ok (n := 10) k2 (by decide) i
      have rl := roll_S (n := 10) kd (by omega) (by decide) (by decide)
      refine ⟨_, _, true, fun j hj => hj, fun s H C cl fp => (gv_name 6 sc__law_house.nd), fun s H C cl fp => rts_nil, .inl ⟨rfl, .int (rollV (rlN (lhD d) 10 i) 10), [oo (rlN (lhD d) 10 (i + 1)).l, dd (.int (n : Int)), oo ((lhT d).map tD), none, none, none, dd (.int (i : Int))], fun s H C cl fp => (rv_callO (xs := [_]) 0 (df__law_roll T) (by walk_at "room") (ra_cons (by first | exact rv_name 0 | exact rv_slot 0) (ra_cons rv_int ra_nil)) (by rfl) (by walk_at "rl")), by walk_at "wk", ?_⟩⟩
      rw [List.range_succ, List.map_append]
      rfl
end
end KX

set_option Elab.async false
set_option linter.all false
set_option maxRecDepth 100000
set_option maxHeartbeats 4000000
namespace KX
open PySem PySem.Spec PyProof.Rows L2 Dn TL
local macro_rules | `(tactic| walk_at "ovAdd") => `(tactic| first | exact ov_add | exact ov_catT (by walk_at "side"))
local macro_rules | `(tactic| walk_at "ovSub") => `(tactic| exact ov_sub)
local macro_rules | `(tactic| walk_at "ovMult") => `(tactic| first | exact ov_mul (by walk_at "side") | exact ov_mulW (by walk_at "side"))
local macro_rules | `(tactic| walk_at "ovMod") => `(tactic| exact ov_mod (by walk_at "side"))
local macro_rules | `(tactic| walk_at "ovFloorDiv") => `(tactic| first | exact ov_fdiv ⟨by omega, by omega⟩ | exact ov_fdivW (by walk_at "side"))
local macro_rules | `(tactic| walk_at "ovPow") => `(tactic| exact ov_pow ⟨by decide, by decide, by decide⟩)
local macro_rules | `(tactic| walk_at "side") => `(tactic| first | omega | assumption | (exact .inl ⟨by omega, by omega⟩) | (exact .inr ⟨by omega, by omega⟩) | decide)
local macro_rules | `(tactic| walk_at "ovLt") => `(tactic| exact ov_lt)
local macro_rules | `(tactic| walk_at "ovLtE") => `(tactic| exact ov_le)
local macro_rules | `(tactic| walk_at "ovGt") => `(tactic| exact ov_gt)
local macro_rules | `(tactic| walk_at "ovGtE") => `(tactic| exact ov_ge)
local macro_rules | `(tactic| walk_at "ovEq") => `(tactic| first | exact ov_eqI | exact ov_eqB)
local macro_rules | `(tactic| walk_at "ovNotEq") => `(tactic| first | exact ov_neI | exact ov_neB)
local macro_rules | `(tactic| walk_at "ovIs") => `(tactic| first | exact ov_isN | exact ov_isB)
local macro_rules | `(tactic| walk_at "ovIsNot") => `(tactic| first | exact ov_notN | exact ov_notB)
local macro_rules | `(tactic| walk_at "vw") => `(tactic| first | exact Vw.dl | exact Vw.dt | exact Vw.li | exact Vw.sl rfl)
local macro_rules | `(tactic| walk_at "dv") => `(tactic| first | exact Dv.da | exact Dv.li | exact Dv.sl rfl)
local macro_rules | `(tactic| walk_at "at") => `(tactic| first | rfl | assumption)
local macro_rules | `(tactic| walk_at "isi") => `(tactic| first | exact kb_int _ | exact kb_bool _ | exact kb_tuple _ | exact kb_str _)
local macro_rules | `(tactic| walk_at "room") => `(tactic| exact Room.mono (by assumption) (by decide))
local macro_rules | `(tactic| walk_at "cvlen") => `(tactic| exact cv_len (by walk_at "vw"))
local macro_rules | `(tactic| walk_at "cvabs") => `(tactic| exact cv_abs)
local macro_rules | `(tactic| walk_at "cvint") => `(tactic| exact cv_int)
local macro_rules | `(tactic| walk_at "cvmax") => `(tactic| exact cv_max2 rfl)
local macro_rules | `(tactic| walk_at "cvmin") => `(tactic| exact cv_min2 rfl)
local macro_rules | `(tactic| walk_at "cvtuple") => `(tactic| exact cv_tuple (by walk_at "vw"))
local macro_rules | `(tactic| walk_at "cvlist") => `(tactic| exact cv_list (by walk_at "vw"))
local macro_rules | `(tactic| walk_at "wk") => `(tactic| repeat (first | exact Wk.nil | refine Wk.same ?_ | refine Wk.drop ?_))
local macro_rules | `(tactic| walk_at "rng") => `(tactic| (refine ⟨?_, ?_⟩ <;> omega))

local macro_rules | `(tactic| walk_at "sp") => `(tactic| first | exact ⟨_, rfl, rfl⟩ | exact ⟨_, _, rfl, rfl⟩ | exact ⟨_, _, _, rfl, rfl⟩ | exact ⟨_, _, _, _, _, by decide, rfl, rfl⟩)
/-! the law's writer -/
theorem tl_thing_sp : tl (Str.ofString "thing ") = thingL ++ [32] := by decide +kernel
theorem joinL_snoc (S x : List Nat) : ∀ (p : List Nat) (l : List (List Nat)), joinL S (p :: (l ++ [x])) = joinL S (p :: l) ++ (S ++ x)
  | p, [] => rfl
  | p, q :: l => by
    have ih := joinL_snoc S x q l
    show p ++ (S ++ joinL S (q :: (l ++ [x]))) = (p ++ (S ++ joinL S (q :: l))) ++ (S ++ x)
    rw [ih]
    simp only [List.append_assoc]
theorem lnL_snoc (w : List Nat) (ns : List Int) (x : Int) : lnL w (ns ++ [x]) = lnL w ns ++ [32] ++ nm x := by
  unfold lnL
  rw [List.map_append, List.append_assoc]
  exact joinL_snoc [32] (nm x) w (ns.map nm)
theorem tlL_eq (t : Th) : tlL t = thingL ++ [32] ++ nm t.b ++ [32] ++ nm t.e ++ [32] ++ nm t.lo ++ [32] ++ nm t.hi := by
  show thingL ++ ([32] ++ (nm t.b ++ ([32] ++ (nm t.e ++ ([32] ++ (nm t.lo ++ ([32] ++ nm t.hi))))))) = _
  simp only [List.append_assoc]
theorem ix0 {n : Nat} (h : 0 < n) : ixN n 0 = some 0 := by
  show ixN n ((0 : Nat) : Int) = some 0
  unfold ixN
  first | (rw [if_pos (by omega)]; simp; done) | (simp; omega)
/-! what is written is read -/
theorem joinL_mem {S : List Nat} {x : Nat} : ∀ {ls : List (List Nat)}, x ∈ joinL S ls → x ∈ S ∨ ∃ p ∈ ls, x ∈ p
  | [], h => by cases h
  | [p], h => .inr ⟨p, .head _, h⟩
  | p :: q :: r, h => by
    have h : x ∈ p ++ (S ++ joinL S (q :: r)) := h
    rcases List.mem_append.mp h with h | h
    · exact .inr ⟨p, .head _, h⟩
    · rcases List.mem_append.mp h with h | h
      · exact .inl h
      · rcases joinL_mem h with h | ⟨p, hp, h⟩
        · exact .inl h
        · exact .inr ⟨p, .tail _ hp, h⟩
theorem nm_free {i : Int} {s : Nat} (h : s < 48 ∨ 57 < s) : s ∉ nm i := numL_free h
theorem ln_free {w : List Nat} {ns : List Int} (hw : 10 ∉ w) : 10 ∉ lnL w ns := fun h => by
  rcases joinL_mem h with hx | ⟨p, hp, hx⟩
  · simp at hx
  · rcases List.mem_cons.mp hp with rfl | hp
    · exact hw hx
    · obtain ⟨i, _, rfl⟩ := List.mem_map.mp hp
      exact nm_free (.inl (by decide)) hx
theorem nb_ln {w : List Nat} {ns : List Int} (hw : 32 ∉ w) (h : ∀ i ∈ ns, 0 ≤ i ∧ i < 1000) : nbO (lnL w ns) w = some (ns.map Int.toNat) := by
  have e : spl [32] 0 [] (lnL w ns) = w :: ns.map nm := spl_join (by simp) fun p hp => by
    rcases List.mem_cons.mp hp with rfl | hp
    · exact hw
    · obtain ⟨i, _, rfl⟩ := List.mem_map.mp hp
      exact nm_free (.inl (by decide))
  rw [nbO_eq e, if_pos rfl, allO_some, List.map_map, List.map_map]
  refine List.map_congr_left fun i hi => ?_
  exact numO_num (by have := h i hi; omega)
theorem natsD_toNat {ns : List Int} (h : ∀ i ∈ ns, 0 ≤ i) : natsD (ns.map Int.toNat) = ns.map .int := by
  unfold natsD
  rw [List.map_map]
  refine List.map_congr_left fun i hi => ?_
  show PyData.int ((i.toNat : Nat) : Int) = .int i
  rw [Int.toNat_of_nonneg (h i hi)]
theorem rd_own {ms : List Int} {ts : List Th} (mk : MsOk ms) (ma : areIn (.tuple (ms.map .int)) 0 12 0 9 = true) (hk : HOk ms.length ts) : rdO (hsT ms ts) = .inr (ms.map Int.toNat, ts.map fun t => (tI t).map Int.toNat) := by
  have hd : 10 ∉ daysL := by decide
  have ht : 10 ∉ thingL := by decide
  have hd2 : 32 ∉ daysL := by decide
  have ht2 : 32 ∉ thingL := by decide
  have e : spl [10] 0 [] (hsT ms ts) = hsLs ms ts := spl_join (by unfold hsLs; simp) fun p hp => by
    rcases List.mem_cons.mp hp with rfl | hp
    · exact ln_free hd
    · obtain ⟨t, _, rfl⟩ := List.mem_map.mp hp
      exact ln_free ht
  have mll := mk.len
  have hm : nbO (lnL daysL ms) daysL = some (ms.map Int.toNat) := nb_ln hd2 fun i hi => by have := mk.ok i hi; omega
  have htl : ∀ t ∈ ts, nbO (tlL t) thingL = some ((tI t).map Int.toNat) := fun t h => nb_ln ht2 (tI_lt (hk.ok t h) (by omega))
  have okm : okM (ms.map Int.toNat) = true := by
    unfold okM
    rw [natsD_toNat fun i hi => (mk.ok i hi).1]
    exact ma
  have hf : fstBad (ms.map Int.toNat).length (ts.map tlL) = none := by
    unfold fstBad
    rw [List.find?_eq_none]
    intro i hi
    have hi := List.mem_range.mp hi
    rw [List.length_map] at hi
    rw [List.getD_eq_getElem?_getD, List.getElem?_map, List.getElem?_eq_getElem hi]
    show ¬ badL (ms.map Int.toNat).length i (tlL ts[i]) = true
    have hin := List.getElem_mem hi
    unfold badL
    rw [htl _ hin]
    show ¬ (!isThing _ (.tuple (natsD ((tI ts[i]).map Int.toNat))) || decide (i = 6)) = true
    rw [natsD_toNat fun i hi => (tI_lt (hk.ok _ hin) (by omega) i hi).1, List.length_map]
    have : isThing (ms.length : Int) (.tuple ((tI ts[i]).map .int)) = true := isThing_ok (hk.ok _ hin)
    rw [this]
    have := hk.len
    simp
    omega
  unfold rdO
  rw [e]
  show (match nbO (lnL daysL ms) daysL with | none => _ | some ms => _) = _
  rw [hm]
  show (if okM (ms.map Int.toNat) = true then _ else _) = _
  rw [okm, if_pos rfl]
  show (match fstBad (ms.map Int.toNat).length (ts.map tlL) with | some i => _ | none => _) = _
  rw [hf]
  show Sum.inr (ms.map Int.toNat, (ts.map tlL).map thO) = _
  congr 2
  rw [List.map_map]
  refine List.map_congr_left fun t h => ?_
  show (nbO (tlL t) thingL).getD [] = _
  rw [htl t h]
  rfl
theorem rdD_own {ms : List Int} {ts : List Th} (mk : MsOk ms) (ma : areIn (.tuple (ms.map .int)) 0 12 0 9 = true) (hk : HOk ms.length ts) : rdD (rdO (hsT ms ts)) = .tuple [.tuple (ms.map .int), TD ts] := by
  rw [rd_own mk ma hk]
  have mll := mk.len
  show PyData.tuple [.tuple (natsD (ms.map Int.toNat)), .tuple (CL (ts.map fun t => (tI t).map Int.toNat))] = _
  rw [natsD_toNat fun i hi => (mk.ok i hi).1]
  congr 3
  show PyData.tuple _ = .tuple _
  congr 1
  unfold CL
  rw [List.map_map]
  refine List.map_congr_left fun t h => ?_
  show PyData.tuple (natsD ((tI t).map Int.toNat)) = tD t
  rw [natsD_toNat fun i hi => (tI_lt (hk.ok t h) (by omega) i hi).1]
  rfl
theorem hsT_len {ms : List Int} {ts : List Th} (mk : MsOk ms) (hk : HOk ms.length ts) : (hsT ms ts).length ≤ 192 := by
  have mll := mk.len
  have h := joinL_len [10] (hsLs ms ts)
  have h2 := sum_le (l := ts.map tlL) (k := 22) fun p hp => by
    obtain ⟨t, ht, rfl⟩ := List.mem_map.mp hp
    exact tlL_len (hk.ok t ht) (by omega)
  have h3 := lnd_len (ms := ms) mll fun i hi => by have := mk.ok i hi; omega
  have h4 := hk.len
  unfold hsLs at h
  rw [List.map_cons, List.sum_cons, List.length_cons, List.length_map] at h
  rw [List.length_map] at h2
  have e : ([10] : List Nat).length = 1 := rfl
  rw [e] at h
  show (joinL [10] (lnL daysL ms :: ts.map tlL)).length ≤ 192
  omega
section
variable {P : Program} {w : World} {K : PySem.W.Frag} {mg : Str → Option Value} {base : Heap} {TT : List (Addr × Str)} {C : Addr}
def S_ltx (xs : List PyData) (oc : Oc) : Prop := ∃ (ms : List Int) (ts : List Th), xs = [.tuple (ms.map .int), TD ts] ∧ MsOk ms ∧ HOk ms.length ts ∧ oc = .ret (.da (TX (hsT ms ts)))
theorem df__law_text (T : Txt P w K mg base TT C) : Df P w K mg base "_law_text" 1 ["most", "things"] (spP K TT C "name" S_ltx) := by
  refine df_of T.f__law_text fun f fd F => ok_pure F sc__law_text (fun xs oc h => by obtain ⟨_, _, rfl, _⟩ := h; rfl) fun cdv A outer s H E hr xs oc hS => ?_
  obtain ⟨ms, ts, rfl, mk, hk, rfl⟩ := hS
  have mll := mk.len
  let ρ0 : List (List Nat) → Option Dt → Option Dt → Rho := fun ls fi th => [dd (.tuple (ms.map .int)), dd (TD ts), oo (ls.map TX), fi, th]
  refine rf_cons (rs_setL 2 (zs := [TX daysL]) (ρ1 := [dd (.tuple (ms.map .int)), dd (TD ts), none, none, none]) (rv_lst (xs := [_]) (ra_cons (rv_strE tl_days) ra_nil)) sc__law_text.nd) ?_
  refine rf_cons (rs_eq (rs_for (xs := ms.map .int) (fun i => ρ0 [lnL daysL (ms.take i)] none none) (iv_eq2 (by first | exact iv_tup (by first | exact rv_name 0 | exact rv_slot 0) | exact iv_list (by first | exact rv_name 0 | exact rv_slot 0) | exact iv_list (rv_settle (by first | exact rv_name 0 | exact rv_slot 0))) rfl rfl) (passes_of rfl) rfl fun i x hx => ?_) (ρ2 := ρ0 [lnL daysL ms] none none) (by rw [List.length_map, List.take_length])) ?_
  · rw [List.getElem?_map] at hx
    obtain ⟨x', hx', rfl⟩ := Option.map_eq_some_iff.mp hx
    have xb := mk.ok x' (List.mem_of_getElem? hx')
    have en : lnL daysL (ms.take (i + 1)) = lnL daysL (ms.take i) ++ [32] ++ nm x' := by
      rw [List.take_add_one, hx']
      exact lnL_snoc _ _ _
    rw [en]
    have ll : (lnL daysL (ms.take i)).length ≤ 53 := lnd_len (by rw [List.length_take]; omega) fun i hi => by have := mk.ok i (List.mem_of_mem_take hi); omega
    generalize lnL daysL (ms.take i) = L at ll
    have nl : (nm x').length ≤ 3 := nm_len (by omega)
    let ρi : Rho := ρ0 [L] (dd (.int x')) none
    exact ⟨ρi, _, (gv_name 3 sc__law_text.nd), .inl (rss_weak (rss_one (rs_item (i := 2) (j := 0) (xs := [TX L]) (ρ2 := ρi) (z := TX (L ++ [32] ++ nm x')) (rv_bin (rv_bin (rv_at (xs := [TX L]) (rv_slot 2) rv_int (.sl rfl) (at0 _ _)) (rv_strE tl_sp) (ov_catX (by show L.length + 1 ≤ _; omega))) (rv_callTy (ra_cons (rv_eqD (rv_name 3) (congrArg PyData.int (show x' = (x'.toNat : Int) by omega))) ra_nil) (cv_strN (by omega)) T.b_str) (ov_catX (by rw [List.length_append]; show L.length + 1 + (nm x').length ≤ _; omega))) (rv_slot 2) rv_int rfl (ix0 (by show 0 < 1; decide)))) (by walk_at "wk"))⟩
  have eL : ∀ i, (hsLs ms ts).take (i + 1) = lnL daysL ms :: (ts.take i).map tlL := fun i => by unfold hsLs; rw [List.take_succ_cons, List.map_take]
  refine rf_cons (rs_eq (rs_for (xs := ts.map tD) (fun i => ρ0 ((hsLs ms ts).take (i + 1)) none none) (iv_eq2 (by first | exact iv_tup (by first | exact rv_name 1 | exact rv_slot 1) | exact iv_list (by first | exact rv_name 1 | exact rv_slot 1) | exact iv_list (rv_settle (by first | exact rv_name 1 | exact rv_slot 1))) rfl (by rw [eL]; rfl)) (passes_of rfl) rfl fun i x hx => ?_) (ρ2 := ρ0 (hsLs ms ts) none none) (by rw [List.length_map]; show ρ0 ((hsLs ms ts).take (ts.length + 1)) none none = _; rw [show ts.length + 1 = (hsLs ms ts).length by unfold hsLs; rw [List.length_cons, List.length_map], List.take_length])) ?_
  · rw [List.getElem?_map] at hx
    obtain ⟨t, ht, rfl⟩ := Option.map_eq_some_iff.mp hx
    have tk := hk.ok t (List.mem_of_getElem? ht)
    have til := (List.getElem?_eq_some_iff.mp ht).1
    have hts := hk.len
    have tin := tI_lt tk (by omega)
    have en : ((hsLs ms ts).take (i + 1 + 1)).map TX = ((hsLs ms ts).take (i + 1)).map TX ++ [TX (tlL t)] := by
      rw [eL, eL, List.take_add_one, ht]
      simp
    show ∃ ρ' js, _ ∧ (RSs _ _ _ _ ρ' (.nx [_, _, oo (((hsLs ms ts).take (i + 1 + 1)).map TX), none, none]) ∨ _)
    rw [en]
    have ll : (((hsLs ms ts).take (i + 1)).map TX).length ≤ 10 := by
      rw [eL, List.length_map, List.length_cons, List.length_map, List.length_take]
      omega
    show ∃ ρ' js, GV _ _ _ _ [_, _, oo (((hsLs ms ts).take (i + 1)).map TX), none, none] ρ' js ∧ _
    generalize ((hsLs ms ts).take (i + 1)).map TX = L at ll
    have b1 := tin t.b (by unfold tI; simp)
    have b2 := tin t.e (by unfold tI; simp)
    have b3 := tin t.lo (by unfold tI; simp)
    have b4 := tin t.hi (by unfold tI; simp)
    have n1 : (nm t.b).length ≤ 3 := nm_len b1.2
    have n2 : (nm t.e).length ≤ 3 := nm_len b2.2
    have n3 : (nm t.lo).length ≤ 3 := nm_len b3.2
    have n4 : (nm t.hi).length ≤ 3 := nm_len b4.2
    have s1 : ([32] : List Nat).length = 1 := rfl
    have s5 : thingL.length = 5 := rfl
    let ρi : Rho := [dd (.tuple (ms.map .int)), dd (TD ts), oo L, none, dd (tD t)]
    have xt : List PyData := [.int t.b, .int t.e, .int t.lo, .int t.hi]
    refine ⟨ρi, _, (gv_name 4 sc__law_text.nd), .inl (rss_weak (rss_one (rs_append (i := 2) (xs := L) (z := TX (tlL t)) (ρ2 := ρi) (rv_slot 2) ?_ rfl (by omega) ⟨_, rfl⟩)) (by walk_at "wk"))⟩
    rw [tlL_eq]
    refine rv_bin (rv_bin (rv_bin (rv_bin (rv_bin (rv_bin (rv_bin (rv_strE tl_thing_sp) (rv_callTy (ra_cons (rv_eqD (rv_at (xs := [.int t.b, .int t.e, .int t.lo, .int t.hi]) (rv_name 4) rv_int .dt rfl) (congrArg PyData.int (show t.b = (t.b.toNat : Int) by omega))) ra_nil) (cv_strN (by omega)) T.b_str) (ov_catX ?_)) (rv_strE tl_sp) (ov_catX ?_)) (rv_callTy (ra_cons (rv_eqD (rv_at (xs := [.int t.b, .int t.e, .int t.lo, .int t.hi]) (rv_name 4) rv_int .dt rfl) (congrArg PyData.int (show t.e = (t.e.toNat : Int) by omega))) ra_nil) (cv_strN (by omega)) T.b_str) (ov_catX ?_)) (rv_strE tl_sp) (ov_catX ?_)) (rv_callTy (ra_cons (rv_eqD (rv_at (xs := [.int t.b, .int t.e, .int t.lo, .int t.hi]) (rv_name 4) rv_int .dt rfl) (congrArg PyData.int (show t.lo = (t.lo.toNat : Int) by omega))) ra_nil) (cv_strN (by omega)) T.b_str) (ov_catX ?_)) (rv_strE tl_sp) (ov_catX ?_)) (rv_callTy (ra_cons (rv_eqD (rv_at (xs := [.int t.b, .int t.e, .int t.lo, .int t.hi]) (rv_name 4) rv_int .dt rfl) (congrArg PyData.int (show t.hi = (t.hi.toNat : Int) by omega))) ra_nil) (cv_strN (by omega)) T.b_str) (ov_catX ?_)
    · show (thingL ++ [32]).length + (nm t.b).length ≤ _
      simp only [List.length_append, s1, s5]
      omega
    · show (thingL ++ [32] ++ nm t.b).length + ([32] : List Nat).length ≤ _
      simp only [List.length_append, s1, s5]
      omega
    · show (thingL ++ [32] ++ nm t.b ++ [32]).length + (nm t.e).length ≤ _
      simp only [List.length_append, s1, s5]
      omega
    · show (thingL ++ [32] ++ nm t.b ++ [32] ++ nm t.e).length + ([32] : List Nat).length ≤ _
      simp only [List.length_append, s1, s5]
      omega
    · show (thingL ++ [32] ++ nm t.b ++ [32] ++ nm t.e ++ [32]).length + (nm t.lo).length ≤ _
      simp only [List.length_append, s1, s5]
      omega
    · show (thingL ++ [32] ++ nm t.b ++ [32] ++ nm t.e ++ [32] ++ nm t.lo).length + ([32] : List Nat).length ≤ _
      simp only [List.length_append, s1, s5]
      omega
    · show (thingL ++ [32] ++ nm t.b ++ [32] ++ nm t.e ++ [32] ++ nm t.lo ++ [32]).length + (nm t.hi).length ≤ _
      simp only [List.length_append, s1, s5]
      omega
  · refine rf_ret (rv_joinX (rv_strE tl_nl) (rv_slot 2) (.sl rfl) ?_)
    have h1 := sum_le (l := hsLs ms ts) (k := 53) fun p hp => by
      rcases List.mem_cons.mp hp with rfl | hp
      · exact lnd_len mll fun i hi => by have := mk.ok i hi; omega
      · obtain ⟨t, ht, rfl⟩ := List.mem_map.mp hp
        have := tlL_len (hk.ok t ht) (by omega)
        omega
    have h2 : (hsLs ms ts).length ≤ 7 := by
      have := hk.len
      unfold hsLs
      rw [List.length_cons, List.length_map]
      omega
    show _ + _ * 1 ≤ 100000
    omega
end
end KX

set_option Elab.async false
set_option linter.all false
set_option maxRecDepth 100000
set_option maxHeartbeats 4000000
namespace KX
open PySem PySem.Spec PyProof.Rows L2 Dn TL
local macro_rules | `(tactic| walk_at "ovAdd") => `(tactic| first | exact ov_add | exact ov_catT (by walk_at "side"))
local macro_rules | `(tactic| walk_at "ovSub") => `(tactic| exact ov_sub)
local macro_rules | `(tactic| walk_at "ovMult") => `(tactic| first | exact ov_mul (by walk_at "side") | exact ov_mulW (by walk_at "side"))
local macro_rules | `(tactic| walk_at "ovMod") => `(tactic| exact ov_mod (by walk_at "side"))
local macro_rules | `(tactic| walk_at "ovFloorDiv") => `(tactic| first | exact ov_fdiv ⟨by omega, by omega⟩ | exact ov_fdivW (by walk_at "side"))
local macro_rules | `(tactic| walk_at "ovPow") => `(tactic| exact ov_pow ⟨by decide, by decide, by decide⟩)
local macro_rules | `(tactic| walk_at "side") => `(tactic| first | omega | assumption | (exact .inl ⟨by omega, by omega⟩) | (exact .inr ⟨by omega, by omega⟩) | decide)
local macro_rules | `(tactic| walk_at "ovLt") => `(tactic| exact ov_lt)
local macro_rules | `(tactic| walk_at "ovLtE") => `(tactic| exact ov_le)
local macro_rules | `(tactic| walk_at "ovGt") => `(tactic| exact ov_gt)
local macro_rules | `(tactic| walk_at "ovGtE") => `(tactic| exact ov_ge)
local macro_rules | `(tactic| walk_at "ovEq") => `(tactic| first | exact ov_eqI | exact ov_eqB)
local macro_rules | `(tactic| walk_at "ovNotEq") => `(tactic| first | exact ov_neI | exact ov_neB)
local macro_rules | `(tactic| walk_at "ovIs") => `(tactic| first | exact ov_isN | exact ov_isB)
local macro_rules | `(tactic| walk_at "ovIsNot") => `(tactic| first | exact ov_notN | exact ov_notB)
local macro_rules | `(tactic| walk_at "vw") => `(tactic| first | exact Vw.dl | exact Vw.dt | exact Vw.li | exact Vw.sl rfl)
local macro_rules | `(tactic| walk_at "dv") => `(tactic| first | exact Dv.da | exact Dv.li | exact Dv.sl rfl)
local macro_rules | `(tactic| walk_at "at") => `(tactic| first | rfl | assumption)
local macro_rules | `(tactic| walk_at "isi") => `(tactic| first | exact kb_int _ | exact kb_bool _ | exact kb_tuple _ | exact kb_str _)
local macro_rules | `(tactic| walk_at "room") => `(tactic| exact Room.mono (by assumption) (by decide))
local macro_rules | `(tactic| walk_at "cvlen") => `(tactic| exact cv_len (by walk_at "vw"))
local macro_rules | `(tactic| walk_at "cvabs") => `(tactic| exact cv_abs)
local macro_rules | `(tactic| walk_at "cvint") => `(tactic| exact cv_int)
local macro_rules | `(tactic| walk_at "cvmax") => `(tactic| exact cv_max2 rfl)
local macro_rules | `(tactic| walk_at "cvmin") => `(tactic| exact cv_min2 rfl)
local macro_rules | `(tactic| walk_at "cvtuple") => `(tactic| exact cv_tuple (by walk_at "vw"))
local macro_rules | `(tactic| walk_at "cvlist") => `(tactic| exact cv_list (by walk_at "vw"))
local macro_rules | `(tactic| walk_at "wk") => `(tactic| repeat (first | exact Wk.nil | refine Wk.same ?_ | refine Wk.drop ?_))
local macro_rules | `(tactic| walk_at "rng") => `(tactic| (refine ⟨?_, ?_⟩ <;> omega))

local macro_rules | `(tactic| walk_at "sp") => `(tactic| first | exact ⟨_, rfl, rfl⟩ | exact ⟨_, _, rfl, rfl⟩ | exact ⟨_, _, _, rfl, rfl⟩ | exact ⟨_, _, _, _, _, by decide, rfl, rfl⟩)
local macro_rules | `(tactic| walk_at "rl") => `(tactic| assumption)
/-! texts changed -/
def o1 : List Nat := [116, 104, 105, 110, 103, 32, 48, 32, 49, 32, 48, 32, 48]
def o2 : List Nat := [116, 104, 105, 110, 103, 32, 48, 32, 49, 32, 48]
theorem tl_o1 : tl (Str.ofString "thing 0 1 0 0") = o1 := by decide +kernel
theorem tl_o2 : tl (Str.ofString "thing 0 1 0") = o2 := by decide +kernel
theorem tl_0 : tl (Str.ofString "0") = [48] := by decide +kernel
theorem tl_1 : tl (Str.ofString "1") = [49] := by decide +kernel
theorem tl_9 : tl (Str.ofString "9") = [57] := by decide +kernel
theorem tl_10 : tl (Str.ofString "10") = [49, 48] := by decide +kernel
theorem tl_121 : tl (Str.ofString "121") = [49, 50, 49] := by decide +kernel
theorem tl_007 : tl (Str.ofString "007") = [48, 48, 55] := by decide +kernel
theorem tl_x : tl (Str.ofString "x") = [120] := by decide +kernel
def ch1 (p : List Nat) : List (List (List Nat)) := [[], [o1], [p, p], [[]], [daysL], [o2]]
def ch2 : List (List (List Nat)) := [[], [[48]], [[57]], [[49, 48]], [[49, 50, 49]], [[48, 48, 55]], [[120]]]
def ch3 : List (List Nat) := [[], [32], [10], [48], [49], [120]]
def chA (d : Dice) (l : List Nat) : Nat := (rollV (rollS d 4) ((l.length : Int) + 1)).toNat
def chD (d : Dice) (l : List Nat) : Dice := rollS (rollS d 4) ((l.length : Int) + 1)
/-- a part replaced -/
def rpl (ls new : List (List Nat)) (k : Nat) : List (List Nat) := ls.take k ++ new ++ ls.drop (k + 1)
def pl (d : Dice) (ls : List (List Nat)) : Nat := (rollV d (ls.length : Int)).toNat
def chT (d : Dice) (l : List Nat) : List Nat :=
  if rollV d 4 = 0 then
    joinL [10] (rpl (spl [10] 0 [] l) ((ch1 ((spl [10] 0 [] l).getD (pl (chD d l) (spl [10] 0 [] l)) [])).getD (rollV (rollS (chD d l) ((spl [10] 0 [] l).length : Int)) 6).toNat []) (pl (chD d l) (spl [10] 0 [] l)))
  else if rollV d 4 = 1 then
    joinL [32] (rpl (spl [32] 0 [] l) (ch2.getD (rollV (rollS (chD d l) ((spl [32] 0 [] l).length : Int)) 7).toNat []) (pl (chD d l) (spl [32] 0 [] l)))
  else l.take (chA d l) ++ ch3.getD (rollV (chD d l) 6).toNat [] ++ l.drop (chA d l + (rollV (rollS (chD d l) 6) 2).toNat)
def chE (d : Dice) (l : List Nat) : Dice :=
  if rollV d 4 = 0 then rollS (rollS (chD d l) ((spl [10] 0 [] l).length : Int)) 6
  else if rollV d 4 = 1 then rollS (rollS (chD d l) ((spl [32] 0 [] l).length : Int)) 7
  else rollS (rollS (chD d l) 6) 2
theorem chE_ok {k : Nat} {d : Dice} {l : List Nat} (h : Dok k d) : Dok (k + 4) (chE d l) := by
  have k2 : Dok (k + 2) (chD d l) := roll_ok (roll_ok h (by decide)) (by omega)
  have n1 : 0 < ((spl [10] 0 [] l).length : Int) := by have := List.length_pos_iff.mpr (spl_ne 10 [] l); omega
  have n2 : 0 < ((spl [32] 0 [] l).length : Int) := by have := List.length_pos_iff.mpr (spl_ne 32 [] l); omega
  unfold chE
  split
  · exact roll_ok (roll_ok k2 n1) (by decide)
  · split
    · exact roll_ok (roll_ok k2 n2) (by decide)
    · exact roll_ok (roll_ok k2 (by decide)) (by decide)
def wt (ls : List (List Nat)) : Nat := (ls.map (·.length)).sum + ls.length
theorem wt_app (a b : List (List Nat)) : wt (a ++ b) = wt a + wt b := by
  unfold wt
  rw [List.map_append, List.sum_append, List.length_append]
  omega
theorem rpl_wt {ls new : List (List Nat)} (k : Nat) : wt (rpl ls new k) ≤ wt ls + wt new := by
  have h1 : wt (ls.take k) + wt (ls.drop k) = wt ls := by rw [← wt_app, List.take_append_drop]
  have h2 : wt (ls.drop (k + 1)) ≤ wt (ls.drop k) := by
    have : ls.drop k = (ls.drop k).take 1 ++ ls.drop (k + 1) := by
      rw [← List.drop_drop, List.take_append_drop]
    rw [this, wt_app]
    omega
  unfold rpl
  rw [wt_app, wt_app]
  omega
theorem join_wt (s : Nat) (ls : List (List Nat)) : (joinL [s] ls).length ≤ wt ls := by
  have := joinL_len [s] ls
  unfold wt
  have e : ([s] : List Nat).length = 1 := rfl
  rw [e] at this
  omega
theorem spl_wt (s : Nat) (l : List Nat) : wt (spl [s] 0 [] l) = l.length + 1 := by
  have := spl_sum s [] l
  have e : ([] : List Nat).length = 0 := rfl
  unfold wt
  omega
theorem getD_mem {α : Type} {l : List α} {k : Nat} {a : α} : l.getD k a ∈ a :: l := by
  rw [List.getD_eq_getElem?_getD]
  cases h : l[k]? with
  | none => exact .head _
  | some x => exact .tail _ (List.mem_of_getElem? h)
theorem ch1_wt {p : List Nat} : ∀ n ∈ [] :: ch1 p, wt n ≤ 2 * p.length + 14 := fun n hn => by
  unfold ch1 at hn
  have w0 : wt [] = 0 := rfl
  have w1 : wt [o1] = 14 := by decide
  have w2 : wt [p, p] = 2 * p.length + 2 := by show (p.length + (p.length + 0)) + 2 = _; omega
  have w3 : wt [[]] = 1 := rfl
  have w4 : wt [daysL] = 5 := by decide
  have w5 : wt [o2] = 12 := by decide
  simp only [List.mem_cons, List.not_mem_nil, or_false] at hn
  rcases hn with rfl | rfl | rfl | rfl | rfl | rfl | rfl <;> omega
theorem ch2_wt : ∀ n ∈ [] :: ch2, wt n ≤ 4 := by decide
theorem ch3_wt : ∀ n ∈ [] :: ch3, n.length ≤ 1 := by decide
theorem ch_parts {d : Dice} {l : List Nat} : ((joinL [10] (rpl (spl [10] 0 [] l) ((ch1 ((spl [10] 0 [] l).getD (pl (chD d l) (spl [10] 0 [] l)) [])).getD (rollV (rollS (chD d l) ((spl [10] 0 [] l).length : Int)) 6).toNat []) (pl (chD d l) (spl [10] 0 [] l)))).length ≤ 3 * l.length + 15) := by
  refine Nat.le_trans (join_wt 10 _) (Nat.le_trans (rpl_wt _) ?_)
  rw [spl_wt]
  have h1 := ch1_wt (p := (spl [10] 0 [] l).getD (pl (chD d l) (spl [10] 0 [] l)) []) _ (getD_mem (k := (rollV (rollS (chD d l) ((spl [10] 0 [] l).length : Int)) 6).toNat))
  have h2 : ((spl [10] 0 [] l).getD (pl (chD d l) (spl [10] 0 [] l)) []).length ≤ l.length := by
    rcases List.mem_cons.mp (getD_mem (l := spl [10] 0 [] l) (k := pl (chD d l) (spl [10] 0 [] l)) (a := [])) with h | h
    · rw [h]
      exact Nat.zero_le _
    · exact (spl_bd 10 l).2 _ h
  omega
theorem chT_len (d : Dice) (l : List Nat) : (chT d l).length ≤ 3 * l.length + 15 := by
  unfold chT
  split
  · exact ch_parts
  · split
    · refine Nat.le_trans (join_wt 32 _) (Nat.le_trans (rpl_wt _) ?_)
      rw [spl_wt]
      have := ch2_wt _ (getD_mem (l := ch2) (k := (rollV (rollS (chD d l) ((spl [32] 0 [] l).length : Int)) 7).toNat))
      omega
    · have := ch3_wt _ (getD_mem (l := ch3) (k := (rollV (chD d l) 6).toNat))
      rw [List.length_append, List.length_append, List.length_take, List.length_drop]
      omega
theorem pickD_S {k : Nat} {d : Dice} {ds : List PyData} {z : PyData} {n : Int} (h : Dok k d) (hk : k ≤ 1000000) (h0 : 0 < ds.length) (hl : ds.length ≤ 1000) (hn : n = (ds.length : Int)) (hz : ds[(rollV d n).toNat]? = some z) : S_pick d.l [.list ds] (.ret (.da z)) (rollS d n).l := by
  subst hn
  exact ⟨k, d, ds, z, hk, h, h0, by omega, rfl, rfl, hz, rfl, rfl⟩
def LL (n : List (List Nat)) : PyData := .list (n.map TX)
theorem map_getD {α β : Type} (f : α → β) {l : List α} {k : Nat} (a : α) (h : k < l.length) : (l.map f)[k]? = some (f (l.getD k a)) := by
  rw [List.getElem?_map, List.getD_eq_getElem?_getD, List.getElem?_eq_getElem h]
  rfl
section
variable {P : Program} {w : World} {K : PySem.W.Frag} {mg : Str → Option Value} {base : Heap} {TT : List (Addr × Str)} {C : Addr}
def S_lch (zs xs : List PyData) (oc : Oc) (zs' : List PyData) : Prop := ∃ (k : Nat) (d : Dice) (l : List Nat), k ≤ 4000 ∧ l.length ≤ 2000 ∧ Dok k d ∧ zs = d.l ∧ xs = [TX l] ∧ oc = .ret (.da (TX (chT d l))) ∧ zs' = (chE d l).l
theorem df__law_changed (T : Txt P w K mg base TT C) : Df P w K mg base "_law_changed" 4 ["dice", "text"] (spO K TT C "name" S_lch) := by
  refine df_of T.f__law_changed fun f fd F => ok_own (N := ["text", "way", "at", "lines", "place", "new", "words"]) (ps := ["text"]) F sc__law_changed (fun zs xs oc zs' h => by obtain ⟨_, _, _, _, _, _, _, rfl, _⟩ := h; rfl) fun cdv A outer s H E l0 hr zs xs oc zs' hS => ?_
  obtain ⟨k, d, l, hk, hl, ok, rfl, rfl, rfl, rfl⟩ := hS
  let ρ0 : Dice → Option Dt → Option Dt → Option Dt → Option Dt → Option Dt → Option Dt → Rho := fun d wa at' ln pc nw ws => [oo d.l, dd (TX l), wa, at', ln, pc, nw, ws]
  have r4 := roll_in (d := d) (n := 4) (by decide)
  have rlA := roll_S (n := 4) ok (by omega) (by decide) (by decide)
  have k1 := roll_ok (n := 4) ok (by decide)
  have rA := roll_in (d := rollS d 4) (n := (l.length : Int) + 1) (by omega)
  have rlB := roll_S (n := (l.length : Int) + 1) k1 (by omega) (by omega) (by omega)
  have k2 : Dok (k + 2) (chD d l) := roll_ok (n := (l.length : Int) + 1) k1 (by omega)
  obtain ⟨wy, ew, hw⟩ : ∃ n : Nat, rollV d 4 = (n : Int) ∧ n ≤ 3 := ⟨(rollV d 4).toNat, by omega, by omega⟩
  have ea : rollV (rollS d 4) ((l.length : Int) + 1) = (chA d l : Int) := by unfold chA; omega
  have hA : chA d l ≤ l.length := by unfold chA; omega
  rw [ew] at rlA
  have rlB : S_roll (rollS d 4).l [.int ((l.length : Int) + 1)] (.ret (.da (.int (chA d l : Int)))) (chD d l).l := by rw [← ea]; exact rlB
  have st0 : RS (CxD P w K mg base ["dice", "text", "way", "at", "lines", "place", "new", "words"] "_law_changed" s__law_changed f cdv A outer s H E) ⟨TT, φ0 l0⟩ ⟨C, "name", E⟩ ((defBody s__law_changed).getD 0 (.Pass ⟨0, 0, 0, 0⟩)) (ρ0 d none none none none none none) (.nx (ρ0 (chD d l) (dd (.int (wy : Int))) (dd (.int (chA d l : Int))) none none none none)) :=
    rs_par 2 3 (ra := .da (.int (wy : Int))) (rb := .da (.int (chA d l : Int))) (ρ1 := ρ0 (rollS d 4) none none none none none none) (ρ2 := ρ0 (chD d l) none none none none none none) (rv_callO (xs := [_]) 0 (df__law_roll T) (by walk_at "room") (ra_cons (by first | exact rv_name 0 | exact rv_slot 0) (ra_cons rv_int ra_nil)) (by rfl) rlA) (rv_callO (xs := [_]) 0 (df__law_roll T) (by walk_at "room") (ra_cons (rv_slot 0) (ra_cons (rv_bin (rv_callB (ra_cons (rv_name 1) ra_nil) (cv_lenX (by omega)) T.b_len) rv_int ov_add) ra_nil)) (by rfl) rlB) rfl sc__law_changed.nd
  clear rlA rlB
  have cl := chT_len d l
  have eT : chT d l = if rollV d 4 = 0 then
    joinL [10] (rpl (spl [10] 0 [] l) ((ch1 ((spl [10] 0 [] l).getD (pl (chD d l) (spl [10] 0 [] l)) [])).getD (rollV (rollS (chD d l) ((spl [10] 0 [] l).length : Int)) 6).toNat []) (pl (chD d l) (spl [10] 0 [] l)))
    else if rollV d 4 = 1 then
      joinL [32] (rpl (spl [32] 0 [] l) (ch2.getD (rollV (rollS (chD d l) ((spl [32] 0 [] l).length : Int)) 7).toNat []) (pl (chD d l) (spl [32] 0 [] l)))
    else l.take (chA d l) ++ ch3.getD (rollV (chD d l) 6).toNat [] ++ l.drop (chA d l + (rollV (rollS (chD d l) 6) 2).toNat) := rfl
  have eE : chE d l = if rollV d 4 = 0 then rollS (rollS (chD d l) ((spl [10] 0 [] l).length : Int)) 6
    else if rollV d 4 = 1 then rollS (rollS (chD d l) ((spl [32] 0 [] l).length : Int)) 7
    else rollS (rollS (chD d l) 6) 2 := rfl
  rw [eT, eE, ew]
  rw [eT, ew] at cl
  let W2 : Option Dt := dd (.int (wy : Int))
  let A3 : Option Dt := dd (.int (chA d l : Int))
  have t0 : RT (CxD P w K mg base ["dice", "text", "way", "at", "lines", "place", "new", "words"] "_law_changed" s__law_changed f cdv A outer s H E) ⟨TT, φ0 l0⟩ (match (defBody s__law_changed).getD 1 (.Pass ⟨0, 0, 0, 0⟩) with | .If c _ _ _ => c | _ => .Name "" ⟨0, 0, 0, 0⟩) (ρ0 (chD d l) W2 A3 none none none none) (decide ((wy : Int) = 0)) (ρ0 (chD d l) W2 A3 none none none none) := (rt_cmp (by first | exact rv_name 2 | exact rv_slot 2) rv_int (by walk_at "ovEq"))
  have t1 : RT (CxD P w K mg base ["dice", "text", "way", "at", "lines", "place", "new", "words"] "_law_changed" s__law_changed f cdv A outer s H E) ⟨TT, φ0 l0⟩ (match (defBody s__law_changed).getD 2 (.Pass ⟨0, 0, 0, 0⟩) with | .If c _ _ _ => c | _ => .Name "" ⟨0, 0, 0, 0⟩) (ρ0 (chD d l) W2 A3 none none none none) (decide ((wy : Int) = 1)) (ρ0 (chD d l) W2 A3 none none none none) := (rt_cmp (by first | exact rv_name 2 | exact rv_slot 2) rv_int (by walk_at "ovEq"))
  have bigs : ∀ (s : Nat) (ls new : List (List Nat)) (kk : Nat), wt ls ≤ 2001 → wt new ≤ 5000 → ((rpl ls new kk).map (·.length)).sum + (rpl ls new kk).length * 1 ≤ 100000 := fun s ls new kk h1 h2 => by
    have := rpl_wt (ls := ls) (new := new) kk
    unfold wt at this h1 h2
    omega
  generalize chD d l = d2 at k2 st0 t0 t1 cl
  by_cases h0 : (wy : Int) = 0
  · rw [if_pos h0] at cl ⊢
    rw [if_pos h0]
    rw [decide_eq_true h0] at t0
    have hne := spl_ne 10 [] l
    have bd := spl_bd 10 l
    have swt := spl_wt 10 l
    have sp : RV (CxD P w K mg base ["dice", "text", "way", "at", "lines", "place", "new", "words"] "_law_changed" s__law_changed f cdv A outer s H E) ⟨TT, φ0 l0⟩ (match (match (defBody s__law_changed).getD 1 (.Pass ⟨0, 0, 0, 0⟩) with | .If _ b _ _ => b.getD 0 (.Pass ⟨0, 0, 0, 0⟩) | s => s) with | .Assign _ e _ => e | _ => .Name "" ⟨0, 0, 0, 0⟩) (ρ0 d2 W2 A3 none none none none) (.li ((spl [10] 0 [] l).map TX)) (ρ0 d2 W2 A3 none none none none) := rv_splitX (by decide) (rv_name 1) (rv_strE tl_nl) (by omega)
    generalize spl [10] 0 [] l = ls at hne bd swt sp cl
    have lp := List.length_pos_iff.mpr hne
    have rP := roll_in (d := d2) (n := (ls.length : Int)) (by omega)
    have rlP := roll_S (n := (ls.length : Int)) k2 (by omega) (by omega) (by omega)
    have k3 := roll_ok (n := (ls.length : Int)) k2 (by omega)
    have ep : rollV d2 (ls.length : Int) = (pl d2 ls : Int) := by unfold pl; omega
    have hp : pl d2 ls < ls.length := by unfold pl; omega
    rw [ep] at rlP
    generalize pl d2 ls = pc at rlP hp cl
    generalize rollS d2 (ls.length : Int) = d3 at k3 rlP cl
    have r6 := roll_in (d := d3) (n := 6) (by decide)
    have pll : (ls.getD pc []).length ≤ l.length := by
      rw [List.getD_eq_getElem?_getD, List.getElem?_eq_getElem hp]
      exact bd.2 _ (List.getElem_mem hp)
    have atp : ∀ (L : List PyData), L = ls.map TX → atI L (pc : Int) = some (TX (ls.getD pc [])) := fun L e => by
      rw [e]
      exact atI_nat (map_getD TX [] hp)
    generalize ls.getD pc [] = p at pll atp cl
    have c1 : (rollV d3 6).toNat < (ch1 p).length := by show _ < 6; omega
    have pk : S_pick d3.l [.list ((ch1 p).map LL)] (.ret (.da (LL ((ch1 p).getD (rollV d3 6).toNat [])))) (rollS d3 6).l := pickD_S k3 (by omega) (by rw [List.length_map]; show 0 < 6; decide) (by rw [List.length_map]; show 6 ≤ 1000; decide) (by rw [List.length_map]; rfl) (map_getD LL [] c1)
    have nwt : wt ((ch1 p).getD (rollV d3 6).toNat []) ≤ 2 * p.length + 14 := ch1_wt _ getD_mem
    generalize (ch1 p).getD (rollV d3 6).toNat [] = nw at pk nwt cl
    generalize rollS d3 6 = d4 at pk
    have nl : nw.length ≤ 5000 := by unfold wt at nwt; omega
    let L4 : Option Dt := dd (.list (ls.map TX))
    let P5 : Option Dt := dd (.int (pc : Int))
    refine ⟨.da (TX (joinL [10] (rpl ls nw pc))), ρ0 d4 W2 A3 L4 P5 (dd (LL nw)) none, rss_cons st0 (rss_stop (rs_if t0 (fun _ => ?_) fun z => by cases z)), rfl, rfl, fun _ h => nomatch h⟩
    refine rss_cons (rs_setL 4 (zs := ls.map TX) (ρ1 := ρ0 d2 W2 A3 none none none none) sp sc__law_changed.nd) (rss_settle 4 rfl ?_)
    refine rss_cons (rs_set 5 (z := .int (pc : Int)) (ρ1 := ρ0 d3 W2 A3 L4 none none none) (rv_callO (xs := [_]) 0 (df__law_roll T) (by walk_at "room") (ra_cons (ρ1 := ρ0 d2 W2 A3 L4 none none none) (rv_slot 0) (ra_cons (rv_eqD (rv_callB (ra_cons (by first | exact rv_name 4 | exact rv_slot 4) ra_nil) (by walk_at "cvlen") T.b_len) (by rw [List.length_map])) ra_nil)) (by rfl) rlP) sc__law_changed.nd) ?_
    clear rlP
    refine rss_cons (rs_set 6 (z := LL nw) (ρ1 := ρ0 d4 W2 A3 L4 P5 none none) (rv_callO (xs := [_]) 0 (df__law_pick T) (by walk_at "room") (ra_cons (ρ1 := ρ0 d3 W2 A3 L4 P5 none none) (rv_slot 0) (ra_cons (rv_settle (rv_lst (xs := (ch1 p).map LL) (hl := (by show 6 ≤ 100000; decide)) (ra_cons (rv_settle (rv_lst (xs := []) ra_nil)) (ra_cons (rv_settle (rv_lst (xs := [_]) (ra_cons (rv_strE tl_o1) ra_nil))) (ra_cons (rv_settle (rv_lst (xs := [_, _]) (ra_cons (rv_at (xs := ls.map TX) (rv_name 4) (rv_name 5) .dl (atp _ rfl)) (ra_cons (rv_at (xs := ls.map TX) (rv_name 4) (rv_name 5) .dl (atp _ rfl)) ra_nil)))) (ra_cons (rv_settle (rv_lst (xs := [_]) (ra_cons (rv_strE tl_no) ra_nil))) (ra_cons (rv_settle (rv_lst (xs := [_]) (ra_cons (rv_strE tl_days) ra_nil))) (ra_cons (rv_settle (rv_lst (xs := [_]) (ra_cons (rv_strE tl_o2) ra_nil))) ra_nil)))))))) ra_nil)) (by rfl) pk) sc__law_changed.nd) ?_
    have ec : ∀ (X Y : List PyData), X = cutA (ls.map TX) none (some (pc : Int)) → Y = cutA (ls.map TX) (some ((pc : Int) + 1)) none → X ++ nw.map TX ++ Y = (rpl ls nw pc).map TX := fun X Y hX hY => by
      rw [hX, hY, cutA_take, show (pc : Int) + 1 = ((pc + 1 : Nat) : Int) by rw [Int.natCast_add]; rfl, cutA_drop]
      unfold rpl
      rw [List.map_append, List.map_append, List.map_take, List.map_drop]
    have c1l : (cutA (ls.map TX) none (some (pc : Int))).length ≤ 3000 := by rw [cutA_take, List.length_take, List.length_map]; have := bd.1; omega
    have c2l : (cutA (ls.map TX) (some ((pc : Int) + 1)) none).length ≤ 3000 := by
      rw [show (pc : Int) + 1 = ((pc + 1 : Nat) : Int) by rw [Int.natCast_add]; rfl, cutA_drop, List.length_drop, List.length_map]
      have := bd.1
      omega
    exact rss_one (rs_ret (ρ1 := ρ0 d4 W2 A3 L4 P5 (dd (LL nw)) none) (rv_joinX (r := .li ((rpl ls nw pc).map TX)) (rv_strE tl_nl) (rv_eqL (rv_bin (rv_bin (rv_cutL (rv_name 4) ro_none (ro_some (rv_name 5)) .dl) (rv_name 6) (ov_catV .li .dl (by rw [List.length_map]; omega))) (rv_cutL (rv_name 4) (ro_some (rv_bin (by first | exact rv_name 5 | exact rv_slot 5) rv_int (by walk_at "ovAdd"))) ro_none .dl) (ov_catV .li .li (by rw [List.length_append, List.length_map]; omega))) (ec _ _ rfl rfl)) .li (bigs 10 ls nw pc (by omega) (by omega))))
  · rw [if_neg h0] at cl ⊢
    rw [if_neg h0]
    rw [decide_eq_false h0] at t0
    by_cases h1 : (wy : Int) = 1
    · rw [if_pos h1] at cl ⊢
      rw [if_pos h1]
      rw [decide_eq_true h1] at t1
      have hne := spl_ne 32 [] l
      have bd := spl_bd 32 l
      have swt := spl_wt 32 l
      have sp : RV (CxD P w K mg base ["dice", "text", "way", "at", "lines", "place", "new", "words"] "_law_changed" s__law_changed f cdv A outer s H E) ⟨TT, φ0 l0⟩ (match (match (defBody s__law_changed).getD 2 (.Pass ⟨0, 0, 0, 0⟩) with | .If _ b _ _ => b.getD 0 (.Pass ⟨0, 0, 0, 0⟩) | s => s) with | .Assign _ e _ => e | _ => .Name "" ⟨0, 0, 0, 0⟩) (ρ0 d2 W2 A3 none none none none) (.li ((spl [32] 0 [] l).map TX)) (ρ0 d2 W2 A3 none none none none) := rv_splitX (by decide) (rv_name 1) (rv_strE tl_sp) (by omega)
      generalize spl [32] 0 [] l = ls at hne bd swt sp cl
      have lp := List.length_pos_iff.mpr hne
      have rP := roll_in (d := d2) (n := (ls.length : Int)) (by omega)
      have rlP := roll_S (n := (ls.length : Int)) k2 (by omega) (by omega) (by omega)
      have k3 := roll_ok (n := (ls.length : Int)) k2 (by omega)
      have ep : rollV d2 (ls.length : Int) = (pl d2 ls : Int) := by unfold pl; omega
      have hp : pl d2 ls < ls.length := by unfold pl; omega
      rw [ep] at rlP
      generalize pl d2 ls = pc at rlP hp cl
      generalize rollS d2 (ls.length : Int) = d3 at k3 rlP cl
      have r7 := roll_in (d := d3) (n := 7) (by decide)
      have c1 : (rollV d3 7).toNat < ch2.length := by show _ < 7; omega
      have pk : S_pick d3.l [.list (ch2.map LL)] (.ret (.da (LL (ch2.getD (rollV d3 7).toNat [])))) (rollS d3 7).l := pickD_S k3 (by omega) (by rw [List.length_map]; show 0 < 7; decide) (by rw [List.length_map]; show 7 ≤ 1000; decide) (by rw [List.length_map]; rfl) (map_getD LL [] c1)
      have nwt : wt (ch2.getD (rollV d3 7).toNat []) ≤ 4 := ch2_wt _ getD_mem
      generalize ch2.getD (rollV d3 7).toNat [] = nw at pk nwt cl
      generalize rollS d3 7 = d4 at pk
      have nl : nw.length ≤ 5000 := by unfold wt at nwt; omega
      let L7 : Option Dt := dd (.list (ls.map TX))
      let P5 : Option Dt := dd (.int (pc : Int))
      refine ⟨.da (TX (joinL [32] (rpl ls nw pc))), ρ0 d4 W2 A3 none P5 none L7, rss_cons st0 (rss_cons (rs_if t0 (fun z => by cases z) fun _ => rss_nil) (rss_stop (rs_if t1 (fun _ => ?_) fun z => by cases z))), rfl, rfl, fun _ h => nomatch h⟩
      refine rss_cons (rs_setL 7 (zs := ls.map TX) (ρ1 := ρ0 d2 W2 A3 none none none none) sp sc__law_changed.nd) (rss_settle 7 rfl ?_)
      refine rss_cons (rs_set 5 (z := .int (pc : Int)) (ρ1 := ρ0 d3 W2 A3 none none none L7) (rv_callO (xs := [_]) 0 (df__law_roll T) (by walk_at "room") (ra_cons (ρ1 := ρ0 d2 W2 A3 none none none L7) (rv_slot 0) (ra_cons (rv_eqD (rv_callB (ra_cons (by first | exact rv_name 7 | exact rv_slot 7) ra_nil) (by walk_at "cvlen") T.b_len) (by rw [List.length_map])) ra_nil)) (by rfl) rlP) sc__law_changed.nd) ?_
      clear rlP
      have ec : ∀ (X Y : List PyData), X = cutA (ls.map TX) none (some (pc : Int)) → Y = cutA (ls.map TX) (some ((pc : Int) + 1)) none → X ++ nw.map TX ++ Y = (rpl ls nw pc).map TX := fun X Y hX hY => by
        rw [hX, hY, cutA_take, show (pc : Int) + 1 = ((pc + 1 : Nat) : Int) by rw [Int.natCast_add]; rfl, cutA_drop]
        unfold rpl
        rw [List.map_append, List.map_append, List.map_take, List.map_drop]
      have c1l : (cutA (ls.map TX) none (some (pc : Int))).length ≤ 3000 := by rw [cutA_take, List.length_take, List.length_map]; have := bd.1; omega
      have c2l : (cutA (ls.map TX) (some ((pc : Int) + 1)) none).length ≤ 3000 := by
        rw [show (pc : Int) + 1 = ((pc + 1 : Nat) : Int) by rw [Int.natCast_add]; rfl, cutA_drop, List.length_drop, List.length_map]
        have := bd.1
        omega
      exact rss_one (rs_ret (ρ1 := ρ0 d4 W2 A3 none P5 none L7) (rv_joinX (r := .li ((rpl ls nw pc).map TX)) (rv_strE tl_sp) (rv_eqL (rv_bin (rv_bin (rv_cutL (rv_name 7) ro_none (ro_some (rv_name 5)) .dl) (rv_callO (xs := [_]) 0 (df__law_pick T) (by walk_at "room") (ra_cons (ρ1 := ρ0 d3 W2 A3 none P5 none L7) (rv_slot 0) (ra_cons (rv_settle (rv_lst (xs := ch2.map LL) (hl := (by show 7 ≤ 100000; decide)) (ra_cons (rv_settle (rv_lst (xs := []) ra_nil)) (ra_cons (rv_settle (rv_lst (xs := [_]) (ra_cons (rv_strE tl_0) ra_nil))) (ra_cons (rv_settle (rv_lst (xs := [_]) (ra_cons (rv_strE tl_9) ra_nil))) (ra_cons (rv_settle (rv_lst (xs := [_]) (ra_cons (rv_strE tl_10) ra_nil))) (ra_cons (rv_settle (rv_lst (xs := [_]) (ra_cons (rv_strE tl_121) ra_nil))) (ra_cons (rv_settle (rv_lst (xs := [_]) (ra_cons (rv_strE tl_007) ra_nil))) (ra_cons (rv_settle (rv_lst (xs := [_]) (ra_cons (rv_strE tl_x) ra_nil))) ra_nil))))))))) ra_nil)) (by rfl) pk) (ov_catV .li .dl (by rw [List.length_map]; omega))) (rv_cutL (rv_name 7) (ro_some (rv_bin (by first | exact rv_name 5 | exact rv_slot 5) rv_int (by walk_at "ovAdd"))) ro_none .dl) (ov_catV .li .li (by rw [List.length_append, List.length_map]; omega))) (ec _ _ rfl rfl)) .li (bigs 32 ls nw pc (by omega) (by omega))))
    · rw [if_neg h1] at cl ⊢
      rw [if_neg h1]
      rw [decide_eq_false h1] at t1
      have r6 := roll_in (d := d2) (n := 6) (by decide)
      have c1 : (rollV d2 6).toNat < ch3.length := by show _ < 6; omega
      have pk : S_pick d2.l [.list (ch3.map TX)] (.ret (.da (TX (ch3.getD (rollV d2 6).toNat [])))) (rollS d2 6).l := pickD_S k2 (by omega) (by rw [List.length_map]; show 0 < 6; decide) (by rw [List.length_map]; show 6 ≤ 1000; decide) (by rw [List.length_map]; rfl) (map_getD TX [] c1)
      have nwt : (ch3.getD (rollV d2 6).toNat []).length ≤ 1 := ch3_wt _ getD_mem
      have k3 := roll_ok (n := 6) k2 (by decide)
      generalize ch3.getD (rollV d2 6).toNat [] = nw at pk nwt cl
      generalize rollS d2 6 = d3 at pk k3 cl
      have r2 := roll_in (d := d3) (n := 2) (by decide)
      have rl2 := roll_S (n := 2) k3 (by omega) (by decide) (by decide)
      obtain ⟨m, em, hm⟩ : ∃ m : Nat, rollV d3 2 = (m : Int) ∧ m ≤ 1 := ⟨(rollV d3 2).toNat, by omega, by omega⟩
      rw [em, Int.toNat_natCast] at cl ⊢
      rw [em] at rl2
      generalize rollS d3 2 = d4 at rl2
      have ed : TX (cutA l (some ((chA d l : Int) + (m : Int))) none) = TX (l.drop (chA d l + m)) := by
        rw [show (chA d l : Int) + (m : Int) = ((chA d l + m : Nat) : Int) by rw [Int.natCast_add], cutA_drop]
      have tl1 : (l.take (chA d l)).length ≤ 2000 := by rw [List.length_take]; omega
      have tl2 : (l.drop (chA d l + m)).length ≤ 2000 := by rw [List.length_drop]; omega
      refine ⟨.da (TX (l.take (chA d l) ++ nw ++ l.drop (chA d l + m))), ρ0 d4 W2 A3 none none none none, rss_cons st0 (rss_cons (rs_if t0 (fun z => by cases z) fun _ => rss_nil) (rss_cons (rs_if t1 (fun z => by cases z) fun _ => rss_nil) (rss_one (rs_ret ?_)))), rfl, rfl, fun _ h => nomatch h⟩
      exact rv_bin (ρ1 := ρ0 d3 W2 A3 none none none none) (rv_bin (rv_eqD (rv_cutX (rv_name 1) ro_none (ro_some (rv_name 3)) (by omega)) (congrArg TX (cutA_take l (chA d l)))) (rv_callO (xs := [_]) 0 (df__law_pick T) (by walk_at "room") (ra_cons (ρ1 := ρ0 d2 W2 A3 none none none none) (rv_slot 0) (ra_cons (rv_settle (rv_lst (xs := ch3.map TX) (hl := (by show 6 ≤ 100000; decide)) (ra_cons (rv_strE tl_no) (ra_cons (rv_strE tl_sp) (ra_cons (rv_strE tl_nl) (ra_cons (rv_strE tl_0) (ra_cons (rv_strE tl_1) (ra_cons (rv_strE tl_x) ra_nil)))))))) ra_nil)) (by rfl) pk) (ov_catX (by omega))) (rv_eqD (rv_cutXr (rv_name 1) (rv_bin (rv_name 3) (rv_callO (xs := [_]) 0 (df__law_roll T) (by walk_at "room") (ra_cons (by first | exact rv_name 0 | exact rv_slot 0) (ra_cons rv_int ra_nil)) (by rfl) rl2) ov_add) (by omega)) ed) (ov_catX (by rw [List.length_append]; omega))
end
end KX

set_option Elab.async false
set_option linter.all false
set_option maxRecDepth 100000
set_option maxHeartbeats 4000000
namespace KX
open PySem PySem.Spec PyProof.Rows L2 Dn TL
/-! the law's facts -/
def House2 (a : List Int) (l : List (List Int)) : PyData := .tuple [.tuple (a.map .int), .tuple (l.map fun q => .tuple (q.map .int))]
theorem eqvA_tups (l : List (List Int)) : PyData.eqvAll (l.map fun q => PyData.tuple (q.map .int)) (l.map fun q => PyData.tuple (q.map .int)) = true := by
  induction l with
  | nil => simp [PyData.eqvAll]
  | cons p l ih => rw [List.map_cons, PyData.eqvAll, ih, eqvT_ints, decide_eq_true rfl]; rfl
theorem house2_eqv (a : List Int) (l : List (List Int)) : PyData.eqv (House2 a l) (House2 a l) = true := by
  unfold House2
  rw [PyData.eqv, PyData.eqvAll, PyData.eqvAll, PyData.eqvAll, eqvT_ints, PyData.eqv, eqvA_tups, decide_eq_true rfl]
  rfl
theorem house2_shaped (a : List Int) (l : List (List Int)) : SeqAt.shaped (House2 a l) = true := by
  have h1 := depth_tups l
  have h2 := canLay_tups l
  unfold House2
  simp [SeqAt.shaped, PyData.canLay0, PyData.canLayAll0, canLayI, PyData.depth, PyData.depthAll, PySem.W.depth_ints, h2]
  omega
theorem house_2 (ms : List Int) (ts : List Th) : PyData.tuple [.tuple (ms.map .int), TD ts] = House2 ms (ts.map tI) := by
  unfold House2 TD
  rw [List.map_map]
  rfl
theorem rdD_2 (r : List Nat × List (List Nat)) : rdD (.inr r) = House2 (natsI r.1) (r.2.map natsI) := by
  show PyData.tuple [.tuple (natsD r.1), .tuple (CL r.2)] = _
  unfold House2 CL
  rw [natsD_I, List.map_map]
  congr 3
  refine congrArg PyData.tuple (List.map_congr_left fun p _ => ?_)
  show PyData.tuple (natsD p) = .tuple ((natsI p).map .int)
  rw [natsD_I]
theorem rdD_shaped (x : Nat ⊕ (List Nat × List (List Nat))) : SeqAt.shaped (rdD x) = true := by
  cases x with
  | inl k => rfl
  | inr r => rw [rdD_2]; exact house2_shaped _ _
theorem rdD_eqv (x : Nat ⊕ (List Nat × List (List Nat))) : PyData.eqv (rdD x) (rdD x) = true := by
  cases x with
  | inl k => show PyData.eqv (.int (k : Int)) (.int (k : Int)) = true; simp [PyData.eqv]
  | inr r => rw [rdD_2]; exact house2_eqv _ _
/-- texts changed one after another -/
def crN (d : Dice) (own : List Nat) : Nat → Dice × List Nat
  | 0 => (d, own)
  | t + 1 => (chE (crN d own t).1 (if t % 2 = 0 then own else (crN d own t).2), chT (crN d own t).1 (if t % 2 = 0 then own else (crN d own t).2))
theorem crN_ok {k : Nat} {d : Dice} {own : List Nat} (h : Dok k d) : ∀ t, Dok (k + 4 * t) (crN d own t).1
  | 0 => h
  | t + 1 => chE_ok (crN_ok h t)
theorem crN_len {d : Dice} {own : List Nat} (h : own.length ≤ 192) : ∀ t, (crN d own t).2.length ≤ (if t % 2 = 1 then 591 else 1788)
  | 0 => by show own.length ≤ 1788; omega
  | t + 1 => by
    have ih := crN_len (d := d) h t
    have := chT_len (crN d own t).1 (if t % 2 = 0 then own else (crN d own t).2)
    show (chT (crN d own t).1 (if t % 2 = 0 then own else (crN d own t).2)).length ≤ _
    by_cases h2 : t % 2 = 0
    · rw [if_pos h2] at this ⊢
      rw [if_pos (by omega)]
      omega
    · rw [if_neg h2] at this ⊢
      rw [if_neg (by omega)]
      rw [if_pos (by omega)] at ih
      omega
/-! drawings -/
def mstP (ms : List Int) : PyData → PyData
  | .int i => .int (ms.getD i.toNat 0)
  | x => x
theorem cut_get {ms : List Int} {b e : Int} (h0 : 0 ≤ b) (h1 : b ≤ e) (h2 : e ≤ ms.length) : (rngD b (e - b).toNat).map (mstP ms) = (cutA ms (some b) (some e)).map .int := by
  obtain ⟨bn, rfl⟩ := Int.eq_ofNat_of_zero_le h0
  obtain ⟨en, rfl⟩ := Int.eq_ofNat_of_zero_le (show 0 ≤ e by omega)
  have eb : (((en : Int) - (bn : Int)).toNat) = en - bn := by omega
  have ec : cutA ms (some (bn : Int)) (some (en : Int)) = (ms.drop bn).take (en - bn) := by
    unfold cutA
    rw [HT.sIx_nat, HT.sIx_nat, Nat.min_eq_left (by omega), Nat.min_eq_left (by omega)]
  rw [ec, eb]
  refine List.ext_getElem? fun i => ?_
  by_cases hi : i < en - bn
  · have e1 : (rngD (bn : Int) (en - bn))[i]? = some (.int ((bn : Int) + (i : Int))) := rngD_get hi
    rw [List.getElem?_map, e1, List.getElem?_map, List.getElem?_take, if_pos hi, List.getElem?_drop, List.getElem?_eq_getElem (show bn + i < ms.length by omega)]
    show some (PyData.int (ms.getD ((bn : Int) + (i : Int)).toNat 0)) = some (.int ms[bn + i])
    rw [show ((bn : Int) + (i : Int)).toNat = bn + i by omega, List.getD_eq_getElem?_getD, List.getElem?_eq_getElem (show bn + i < ms.length by omega)]
    rfl
  · rw [List.getElem?_eq_none (by rw [List.length_map, rngD_len]; omega), List.getElem?_eq_none (by rw [List.length_map, List.length_take]; omega)]
def dueP (b e : Int) (c : Nat) : PyData → PyData
  | .int i => TX [if b ≤ i ∧ i < e then c else 46]
  | x => x
theorem joinL_no : ∀ ls : List (List Nat), joinL [] ls = ls.flatten
  | [] => rfl
  | [p] => by show p = [p].flatten; simp
  | p :: q :: r => by
    show p ++ ([] ++ joinL [] (q :: r)) = _
    rw [List.nil_append, joinL_no (q :: r)]
    rfl
theorem due_map (b e : Int) (c n : Nat) : (rngD 0 n).map (dueP b e c) = ((List.range n).map fun (i : Nat) => [if b ≤ (i : Int) ∧ (i : Int) < e then c else 46]).map TX := by
  rw [rngD_ints, List.map_map, List.map_map]
  rfl
theorem due_eq {b e : Int} {n : Nat} (c : Nat) (h0 : 0 ≤ b) (h1 : b ≤ e) (h2 : e ≤ n) : joinL [] ((List.range n).map fun (i : Nat) => [if b ≤ (i : Int) ∧ (i : Int) < e then c else 46]) = List.replicate b.toNat 46 ++ List.replicate (e - b).toNat c ++ List.replicate ((n : Int) - e).toNat 46 := by
  have e0 : ((List.range n).map fun (i : Nat) => [if b ≤ (i : Int) ∧ (i : Int) < e then c else 46]).flatten = (List.range n).map fun (i : Nat) => if b ≤ (i : Int) ∧ (i : Int) < e then c else 46 := by
    generalize List.range n = l
    induction l with
    | nil => rfl
    | cons a l ih => rw [List.map_cons, List.flatten_cons, ih]; rfl
  rw [joinL_no, e0]
  refine List.ext_getElem? fun i => ?_
  by_cases hi : i < n
  · rw [List.getElem?_map, List.getElem?_range hi]
    show some (if b ≤ (i : Int) ∧ (i : Int) < e then c else 46) = _
    by_cases hb : i < b.toNat
    · rw [List.append_assoc, List.getElem?_append_left (by rw [List.length_replicate]; exact hb), List.getElem?_replicate, if_pos hb, if_neg (by omega)]
    · by_cases he : (i : Int) < e
      · rw [List.getElem?_append_left (by rw [List.length_append, List.length_replicate, List.length_replicate]; omega), List.getElem?_append_right (by rw [List.length_replicate]; omega), List.getElem?_replicate, List.length_replicate, if_pos (by omega), if_pos (by omega)]
      · rw [List.getElem?_append_right (by rw [List.length_append, List.length_replicate, List.length_replicate]; omega), List.getElem?_replicate, List.length_append, List.length_replicate, List.length_replicate, if_neg (by omega), if_pos (by omega)]
  · rw [List.getElem?_eq_none (by rw [List.length_map, List.length_range]; omega), List.getElem?_eq_none (by rw [List.length_append, List.length_append, List.length_replicate, List.length_replicate, List.length_replicate]; omega)]
theorem badT {n : Int} {ts : List Th} : goodT n (.tuple (ts.map tD ++ [.none])) = false := by
  show (decide _ && decide _ && (ts.map tD ++ [PyData.none]).all (isThing n)) = false
  rw [List.all_append]
  have : [PyData.none].all (isThing n) = false := rfl
  rw [this, Bool.and_false, Bool.and_false]
theorem bad10 (ms : List Int) : areIn (.tuple (ms.map .int ++ [.int 10])) 0 12 0 9 = false := by
  show (isTup _ 0 12 && (ms.map PyData.int ++ [PyData.int 10]).all fun x => isIn x 0 9) = false
  rw [List.all_append]
  have : ([PyData.int 10].all fun x => isIn x 0 9) = false := rfl
  rw [this, Bool.and_false, Bool.and_false]
end KX

set_option Elab.async false
set_option linter.all false
set_option maxRecDepth 100000
set_option maxHeartbeats 4000000
namespace KX
open PySem PySem.Spec PyProof.Rows L2 Dn TL
local macro_rules | `(tactic| walk_at "ovAdd") => `(tactic| first | exact ov_add | exact ov_catT (by walk_at "side"))
local macro_rules | `(tactic| walk_at "ovSub") => `(tactic| exact ov_sub)
local macro_rules | `(tactic| walk_at "ovMult") => `(tactic| first | exact ov_mul (by walk_at "side") | exact ov_mulW (by walk_at "side"))
local macro_rules | `(tactic| walk_at "ovMod") => `(tactic| exact ov_mod (by walk_at "side"))
local macro_rules | `(tactic| walk_at "ovFloorDiv") => `(tactic| first | exact ov_fdiv ⟨by omega, by omega⟩ | exact ov_fdivW (by walk_at "side"))
local macro_rules | `(tactic| walk_at "ovPow") => `(tactic| exact ov_pow ⟨by decide, by decide, by decide⟩)
local macro_rules | `(tactic| walk_at "side") => `(tactic| first | omega | assumption | (exact .inl ⟨by omega, by omega⟩) | (exact .inr ⟨by omega, by omega⟩) | decide)
local macro_rules | `(tactic| walk_at "ovLt") => `(tactic| exact ov_lt)
local macro_rules | `(tactic| walk_at "ovLtE") => `(tactic| exact ov_le)
local macro_rules | `(tactic| walk_at "ovGt") => `(tactic| exact ov_gt)
local macro_rules | `(tactic| walk_at "ovGtE") => `(tactic| exact ov_ge)
local macro_rules | `(tactic| walk_at "ovEq") => `(tactic| first | exact ov_eqI | exact ov_eqB)
local macro_rules | `(tactic| walk_at "ovNotEq") => `(tactic| first | exact ov_neI | exact ov_neB)
local macro_rules | `(tactic| walk_at "ovIs") => `(tactic| first | exact ov_isN | exact ov_isB)
local macro_rules | `(tactic| walk_at "ovIsNot") => `(tactic| first | exact ov_notN | exact ov_notB)
local macro_rules | `(tactic| walk_at "vw") => `(tactic| first | exact Vw.dl | exact Vw.dt | exact Vw.li | exact Vw.sl rfl)
local macro_rules | `(tactic| walk_at "dv") => `(tactic| first | exact Dv.da | exact Dv.li | exact Dv.sl rfl)
local macro_rules | `(tactic| walk_at "at") => `(tactic| first | rfl | assumption)
local macro_rules | `(tactic| walk_at "isi") => `(tactic| first | exact kb_int _ | exact kb_bool _ | exact kb_tuple _ | exact kb_str _)
local macro_rules | `(tactic| walk_at "room") => `(tactic| exact Room.mono (by assumption) (by decide))
local macro_rules | `(tactic| walk_at "cvlen") => `(tactic| exact cv_len (by walk_at "vw"))
local macro_rules | `(tactic| walk_at "cvabs") => `(tactic| exact cv_abs)
local macro_rules | `(tactic| walk_at "cvint") => `(tactic| exact cv_int)
local macro_rules | `(tactic| walk_at "cvmax") => `(tactic| exact cv_max2 rfl)
local macro_rules | `(tactic| walk_at "cvmin") => `(tactic| exact cv_min2 rfl)
local macro_rules | `(tactic| walk_at "cvtuple") => `(tactic| exact cv_tuple (by walk_at "vw"))
local macro_rules | `(tactic| walk_at "cvlist") => `(tactic| exact cv_list (by walk_at "vw"))
local macro_rules | `(tactic| walk_at "wk") => `(tactic| repeat (first | exact Wk.nil | refine Wk.same ?_ | refine Wk.drop ?_))
local macro_rules | `(tactic| walk_at "rng") => `(tactic| (refine ⟨?_, ?_⟩ <;> omega))

local macro_rules | `(tactic| walk_at "sp") => `(tactic| first | exact ⟨_, rfl, rfl⟩ | exact ⟨_, _, rfl, rfl⟩ | exact ⟨_, _, _, rfl, rfl⟩ | exact ⟨_, _, _, _, _, by decide, rfl, rfl⟩)
local macro_rules | `(tactic| walk_at "rl") => `(tactic| assumption)
abbrev bodyL : List Stmt := loopOf ((defBody s_law).getD 0 (.Pass ⟨0, 0, 0, 0⟩))
abbrev R0 (ns : List Int) : Rho := [dd (.list (ns.map .int)), none, none, none, none, none, none, none, none, none, none, none, none, none, none, none, none]
abbrev RR (ns : List Int) (spot : Int) (d : Dice) (ms : List Int) (ts : List Th) (ow te tu li th ln sm si du to da fi : Option Dt) : Rho := [dd (.list (ns.map .int)), dd (.int spot), oo d.l, ow, te, tu, li, th, ln, sm, si, du, to, dd (.tuple (ms.map .int)), dd (TD ts), da, fi]
abbrev rfK : Nat := 10
abbrev tolds : List PyData := [.str "most", .str "things", .str "text", .str "text", .str "plan", .str "things"]
section
variable {P : Program} {w : World} {K : PySem.W.Frag} {mg : Str → Option Value} {base : Heap} {TT : List (Addr × Str)} {C : Addr}
theorem spot_d (T : Txt P w K mg base TT C) (R : RfT P w K mg base "_law_refused" C "name") {cdv : Value} {A : Around} {outer : List Env} {s : Shared} {H : Hp} {E : XK} (hr : Room 12 (CxD P w K mg base N_law "law" s_law (He.ga K "law") cdv A outer s H E).A) (ecd : cdv = .ref (He.codeOf K ("law", none))) {ns : List Int} {d : Dice} {spot : Int} {ms : List Int} {ts : List Th} (ma : areIn (.tuple (ms.map .int)) 0 12 0 9 = true) (hk : HOk ms.length ts) :
    RSs (CxD P w K mg base N_law "law" s_law (He.ga K "law") cdv A outer s H E) ⟨TT, noφ⟩ ⟨C, "name", E⟩ (bodyL.drop 9) (RR ns spot d ms ts none none none none none none none none none none none none) (.nx (R0 ns)) := by
  have hu : (CxD P w K mg base N_law "law" s_law (He.ga K "law") cdv A outer s H E).A.units + 64 < cLine := hr.units
  have hcode : (CxD P w K mg base N_law "law" s_law (He.ga K "law") cdv A outer s H E).env.code = .ref (He.cT K ("law", none)).1 := ecd
  have mk := areIn_ms ma
  have mll := mk.len
  have tll := hk.len
  let ρ0 : Option Dt → Rho := fun to => RR ns spot d ms ts none none none none none none none none none to none none
  have e2001 : (List.replicate (2001 : Int).toNat [120]).flatten.length = 2001 := by rw [rep_one, List.length_replicate]; rfl
  refine rss_cons (rs_setL 12 (zs := tolds) (ρ1 := ρ0 none) (rv_lst (xs := tolds)
    (ra_cons (refused_core (nm := "most") (k := rfK) R T.l_law.tb hcode T.l_law.tt T.l_law.one (Room.mono hr (by decide)) (LamX.lamS_by (sc := defScope s_law) (by decide +kernel)) (fun A outer s H E f c' hr' => .inl (rx_call (er := ⟨C, "name", E⟩) (xs := [_, _]) (df_write_house T) (Room.mono hr' (by decide)) takes_L (ra_cons rv_non (ra_cons (by first | exact rv_name 14 | exact rv_slot 14) ra_nil)) ⟨_, _, rfl, .inl (.inl ⟨rfl, rfl⟩)⟩)))
    (ra_cons (refused_core (nm := "things") (k := rfK) R T.l_law.tb hcode T.l_law.tt T.l_law.one (Room.mono hr (by decide)) (LamX.lamS_by (sc := defScope s_law) (by decide +kernel)) (fun A outer s H E f c' hr' => .inl (rx_call (er := ⟨C, "name", E⟩) (xs := [_, _]) (df_write_house T) (Room.mono hr' (by decide)) takes_L (ra_cons (rv_name 13) (ra_cons (rv_bin (rv_name 14) (rv_tup (xs := [_]) (ra_cons rv_non ra_nil)) (ov_catT (by rw [List.length_map]; show ts.length + 1 ≤ _; omega))) ra_nil)) ⟨_, _, rfl, .inl (.inr ⟨ms, rfl, ma, badT, rfl⟩)⟩)))
    (ra_cons (refused_core (nm := "text") (k := rfK) R T.l_law.tb hcode T.l_law.tt T.l_law.one (Room.mono hr (by decide)) (LamX.lamS_by (sc := defScope s_law) (by decide +kernel)) (fun A outer s H E f c' hr' => .inl (rx_call (er := ⟨C, "name", E⟩) (xs := [_]) (df_read_house T) (Room.mono hr' (by decide)) takes_L (ra_cons rv_non ra_nil) ⟨_, rfl, .inl ⟨fun l e => (by cases e), fun l e => (by cases e), rfl⟩⟩)))
    (ra_cons (refused_core (nm := "text") (k := rfK) R T.l_law.tb hcode T.l_law.tt T.l_law.one (Room.mono hr (by decide)) (LamX.lamS_by (sc := defScope s_law) (by decide +kernel)) (fun A outer s H E f c' hr' => .inl (rx_call (er := ⟨C, "name", E⟩) (xs := [_]) (df_read_house T) (Room.mono hr' (by decide)) takes_L (ra_cons (rv_bin (rv_strE tl_x) rv_int (ov_repX (by decide) (by decide) (by decide) (by decide))) ra_nil) ⟨_, rfl, .inl ⟨fun l e => (by rw [← TX_inj e, e2001]; decide), fun l e => (by rw [← TX_inj e, e2001]; decide), rfl⟩⟩)))
    (ra_cons (refused_core (nm := "plan") (k := rfK) R T.l_law.tb hcode T.l_law.tt T.l_law.one (Room.mono hr (by decide)) (LamX.lamS_by (sc := defScope s_law) (by decide +kernel)) (fun A outer s H E f c' hr' => .inl (rx_call (er := ⟨C, "name", E⟩) (xs := [_, _]) (df_draw T) (Room.mono hr' (by decide)) takes_L (ra_cons (rv_bin (rv_name 13) (rv_tup (xs := [_]) (ra_cons rv_int ra_nil)) (ov_catT (by rw [List.length_map]; show ms.length + 1 ≤ _; omega))) (ra_cons (rv_name 14) ra_nil)) ⟨_, _, rfl, .inl ⟨bad10 ms, rfl⟩⟩)))
    (ra_cons (refused_core (nm := "things") (k := rfK) R T.l_law.tb hcode T.l_law.tt T.l_law.one (Room.mono hr (by decide)) (LamX.lamS_by (sc := defScope s_law) (by decide +kernel)) (fun A outer s H E f c' hr' => .inl (rx_call (er := ⟨C, "name", E⟩) (xs := [_, _]) (df_draw T) (Room.mono hr' (by decide)) takes_L (ra_cons (by first | exact rv_name 13 | exact rv_slot 13) (ra_cons rv_non ra_nil)) ⟨_, _, rfl, .inr ⟨ms, rfl, ma, .inl ⟨rfl, rfl⟩⟩⟩))) ra_nil))))))) sc_law.nd) ?_
  exact rss_one (rs_weak (ρ1 := ρ0 (oo tolds)) (rs_if (k1 := !PyData.eqv (.list tolds) (.list tolds)) (rt_cmp (rv_slot 12) (rv_lst (xs := tolds) (ra_cons rv_str (ra_cons rv_str (ra_cons rv_str (ra_cons rv_str (ra_cons rv_str (ra_cons rv_str ra_nil))))))) (ov_neD hu (.sl rfl) .li (by decide +kernel) (by decide +kernel))) (fun h => by exfalso; revert h; decide +kernel) fun _ => rss_nil) (by walk_at "wk"))
theorem spot_c (T : Txt P w K mg base TT C) (R : RfT P w K mg base "_law_refused" C "name") {cdv : Value} {A : Around} {outer : List Env} {s : Shared} {H : Hp} {E : XK} (hr : Room 12 (CxD P w K mg base N_law "law" s_law (He.ga K "law") cdv A outer s H E).A) (ecd : cdv = .ref (He.codeOf K ("law", none))) {ns : List Int} {d : Dice} {spot : Int} {ms : List Int} {ts : List Th} (ma : areIn (.tuple (ms.map .int)) 0 12 0 9 = true) (hk : HOk ms.length ts) :
    RSs (CxD P w K mg base N_law "law" s_law (He.ga K "law") cdv A outer s H E) ⟨TT, noφ⟩ ⟨C, "name", E⟩ (bodyL.drop 6) (RR ns spot d ms ts none none none none none none none none none none none none) (.nx (R0 ns)) := by
  have mk := areIn_ms ma
  have mll := mk.len
  have tll := hk.len
  let ρ0 : Option Dt → Option Dt → Rho := fun li fi => RR ns spot d ms ts none none none li none none none none none none none fi
  let TL6 : List PyData := TX (joinL [] (ms.map nm)) :: (ts.map (drL ms)).map TX
  have pm : (ms.map PyData.int).map stP = (ms.map nm).map TX := by rw [List.map_map, List.map_map]; rfl
  have dw : S_dr [.tuple (ms.map .int), TD ts] (.ret (.da (.tuple TL6))) := ⟨_, _, rfl, .inr ⟨ms, rfl, ma, .inr ⟨ts, rfl, hk, rfl⟩⟩⟩
  refine rss_cons (rs_set 6 (z := .tuple TL6) (ρ1 := ρ0 none none) (rv_callK (xs := [_, _]) ["things", "plan"] [1, 0] (df_draw T) (by walk_at "room") (rk_cons (by first | exact rv_name 14 | exact rv_slot 14) (rk_cons (by first | exact rv_name 13 | exact rv_slot 13) rk_nil)) dw) sc_law.nd) ?_
  let L6 : Option Dt := dd (.tuple TL6)
  have eT : ((TL6.length : Nat) : Int) = ((ts.map tD).length : Int) + 1 := by
    show (((((ts.map (drL ms)).map TX).length + 1 : Nat)) : Int) = _
    rw [List.length_map, List.length_map, List.length_map]
    omega
  refine rss_cons (rs_if (k1 := (!decide ((TL6.length : Int) = ((ts.map tD).length : Int) + 1) || !decide (joinL [] (ms.map nm) = joinL [] (ms.map nm)))) (ρ1 := ρ0 L6 none) (rt_w (rw_or (rt_cmp (rv_callB (ra_cons (by first | exact rv_name 6 | exact rv_slot 6) ra_nil) (by walk_at "cvlen") T.b_len) (rv_bin (rv_callB (ra_cons (by first | exact rv_name 14 | exact rv_slot 14) ra_nil) (by walk_at "cvlen") T.b_len) rv_int (by walk_at "ovAdd")) (by walk_at "ovNotEq")) fun _ => rw_or1 (rt_cmp (rv_at (xs := TL6) (rv_name 6) rv_int .dt (at0 _ _)) (rv_joinX (rv_strE tl_no) (rv_eqL (RC.rv (rc_map (own := [("fires", 16)]) (xs := ms.map .int) (ρ1 := ρ0 L6 none) stP rfl sc_law.nd (iv_eq2 (by first | exact iv_tup (by first | exact rv_name 13 | exact rv_slot 13) | exact iv_list (by first | exact rv_name 13 | exact rv_slot 13) | exact iv_list (rv_settle (by first | exact rv_name 13 | exact rv_slot 13))) rfl rfl) (blkOk_by (N := N_law) (sc := defScope s_law) (by decide +kernel)) rfl (by rw [List.length_map]; omega) (fun i x hx => ?_))) pm) .li ?_) ov_neX))) (fun hc => by rw [decide_eq_true eT] at hc; simp at hc) fun _ => rss_nil) ?_
  · rw [List.getElem?_map] at hx
    obtain ⟨i', hi', rfl⟩ := Option.map_eq_some_iff.mp hx
    have := mk.ok i' (List.mem_of_getElem? hi')
    exact ⟨ρ0 L6 (dd (.int i')), _, fun j hj => hj, fun s H C cl fp => (gv_name 16 sc_law.nd), by walk_at "wk", _, fun s H C cl fp => rv_callTy (ra_cons (rv_eqD (rv_name 16) (congrArg PyData.int (show i' = (i'.toNat : Int) by omega))) ra_nil) (cv_strN (by omega)) T.b_str, by walk_at "wk"⟩
  · have := sum_le (l := ms.map nm) (k := 3) fun p hp => by
      obtain ⟨i, hi, rfl⟩ := List.mem_map.mp hp
      exact nm_len (by have := mk.ok i hi; omega)
    rw [List.length_map] at this ⊢
    show _ + ms.length * 0 ≤ 100000
    omega
  refine rss_cons (rs_weak (ρ1 := ρ0 L6 none) (rs_for (xs := zipD (ts.map tD) ((ts.map (drL ms)).map TX)) (fun _ => ρ0 L6 none) (iv_z .t .t T.b_zip (ra_cons (rv_name 14) (ra_cons (rv_eqD (rv_cutT (rv_name 6) (ro_some rv_int) ro_none) (congrArg PyData.tuple (cutA_drop TL6 1))) ra_nil))) (passes_of rfl) rfl fun i x hx => ?_) (by walk_at "wk")) (spot_d T R hr ecd ma hk)
  have hi : i < ts.length := by
    have := (List.getElem?_eq_some_iff.mp hx).1
    rw [zipD_len, List.length_map, List.length_map, List.length_map] at this
    omega
  have h1 : (ts.map tD)[i]? = some (tD ts[i]) := by rw [List.getElem?_map, List.getElem?_eq_getElem hi]; rfl
  have h2 : ((ts.map (drL ms)).map TX)[i]? = some (TX (drL ms ts[i])) := by rw [List.getElem?_map, List.getElem?_map, List.getElem?_eq_getElem hi]; rfl
  rw [zipD_get h1 h2] at hx
  cases hx
  have tk := hk.ok ts[i] (List.getElem_mem hi)
  generalize ts[i] = t at tk
  clear h1 h2 hi
  have sgb := sg_bd mk t
  have tb0 := tk.b0; have tb1 := tk.b1; have te0 := tk.e0; have te1 := tk.e1
  have edr : drL ms t = drB ms t ++ [32] ++ nm (sg ms t) := rfl
  have edb : drB ms t = joinL [] ((List.range ms.length).map fun (i : Nat) => [if t.b ≤ (i : Int) ∧ (i : Int) < t.e then sgC ms t else 46]) := (due_eq (sgC ms t) tb0 (by omega) te1).symm
  have dbl : (drB ms t).length ≤ 100 := by
    unfold drB
    rw [List.length_append, List.length_append, rep_len, rep_len, rep_len]
    omega
  let ρt : Option Dt → Option Dt → Option Dt → Option Dt → Rho := fun sm si du da => RR ns spot d ms ts none none none L6 (dd (tD t)) (dd (TX (drL ms t))) sm si du none da none
  have xs4 : tD t = .tuple [.int t.b, .int t.e, .int t.lo, .int t.hi] := rfl
  refine ⟨ρt none none none none, _, (gv_tup rfl (gvs_cons (tgs := []) (gv_name 7 sc_law.nd) (gvs_cons (tgs := []) (gv_name 8 sc_law.nd) gvs_nil))), .inl ?_⟩
  refine rss_cons (rs_set 9 (z := .int (sg ms t)) (ρ1 := ρt none none none none) (rv_callB (ra_cons (rv_eqL (RC.rv (rc_map (own := [("day", 15)]) (xs := rngD t.b (t.e - t.b).toNat) (ρ1 := ρt none none none none) (mstP ms) rfl sc_law.nd (iv_range2 (k := t.b) (m := t.e) T.b_range (ra_cons (rv_at (xs := [.int t.b, .int t.e, .int t.lo, .int t.hi]) (rv_name 7) rv_int .dt rfl) (ra_cons (rv_at (xs := [.int t.b, .int t.e, .int t.lo, .int t.hi]) (rv_name 7) rv_int .dt rfl) ra_nil)) ⟨by omega, by omega, by omega, by omega⟩) (blkOk_by (N := N_law) (sc := defScope s_law) (by decide +kernel)) rfl (by rw [rngD_len]; omega) (fun i x hx => ?_))) (cut_get tb0 (by omega) te1)) ra_nil) (cv_sumL rfl .li) T.b_sum) sc_law.nd) ?_
  · have hl : i < (t.e - t.b).toNat := by
      have := (List.getElem?_eq_some_iff.mp hx).1
      rwa [rngD_len] at this
    rw [rngD_get hl] at hx
    cases hx
    have hg : atI (ms.map PyData.int) (t.b + (i : Int)) = some (mstP ms (.int (t.b + (i : Int)))) := by
      show _ = some (PyData.int (ms.getD (t.b + (i : Int)).toNat 0))
      rw [show t.b + (i : Int) = (((t.b + (i : Int)).toNat : Nat) : Int) by omega]
      refine atI_nat ?_
      rw [Int.toNat_natCast, List.getElem?_map, List.getD_eq_getElem?_getD, List.getElem?_eq_getElem (show (t.b + (i : Int)).toNat < ms.length by omega)]
      rfl
    exact ⟨ρt none none none (dd (.int (t.b + (i : Int)))), _, fun j hj => hj, fun s H C cl fp => (gv_name 15 sc_law.nd), by walk_at "wk", _, fun s H C cl fp => rv_at (xs := ms.map .int) (rv_name 13) (rv_name 15) .dt hg, by walk_at "wk"⟩
  let S9 : Option Dt := dd (.int (sg ms t))
  refine rss_cons (rs_set 10 (z := TX [sgC ms t]) (ρ1 := ρt S9 none none none) (rv_if (k1 := decide (sg ms t < t.lo)) (ρ1 := ρt S9 none none none) (rt_cmp (rv_name 9) (rv_at (xs := [.int t.b, .int t.e, .int t.lo, .int t.hi]) (rv_name 7) rv_int .dt rfl) ov_lt) (fun h => rv_eqD (rv_strE tl_minus) (by unfold sgC; rw [if_pos (of_decide_eq_true h)])) (fun h => rv_if (k1 := decide (t.hi < sg ms t)) (ρ1 := ρt S9 none none none) (rt_cmp (rv_name 9) (rv_at (xs := [.int t.b, .int t.e, .int t.lo, .int t.hi]) (rv_name 7) rv_int .dt rfl) ov_gt) (fun h2 => rv_eqD (rv_strE tl_plus) (by unfold sgC; rw [if_neg (of_decide_eq_false h), if_pos (of_decide_eq_true h2)])) (fun h2 => rv_eqD (rv_strE tl_eq) (by unfold sgC; rw [if_neg (of_decide_eq_false h), if_neg (of_decide_eq_false h2)])))) sc_law.nd) ?_
  let G10 : Option Dt := dd (TX [sgC ms t])
  refine rss_cons (rs_set 11 (z := TX (drB ms t)) (ρ1 := ρt S9 G10 none none) (rv_eqD (rv_joinX (rv_strE tl_no) (rv_eqL (RC.rv (rc_map (own := [("day", 15)]) (xs := rngD 0 ms.length) (ρ1 := ρt S9 G10 none none) (dueP t.b t.e (sgC ms t)) rfl sc_law.nd (iv_eq2 (iv_range1 (k := (ms.length : Int)) T.b_range (ra_cons (rv_eqD (rv_callB (ra_cons (by first | exact rv_name 13 | exact rv_slot 13) ra_nil) (by walk_at "cvlen") T.b_len) (by rw [List.length_map])) ra_nil) ⟨by omega, by omega⟩) (by rw [Int.toNat_natCast]) rfl) (blkOk_by (N := N_law) (sc := defScope s_law) (by decide +kernel)) rfl (by rw [rngD_len]; omega) (fun i x hx => ?_))) (due_map t.b t.e (sgC ms t) ms.length)) .li ?_) (congrArg TX edb.symm)) sc_law.nd) ?_
  · obtain ⟨rfl, hi⟩ := rngD_get' hx
    refine ⟨ρt S9 G10 none (dd (.int (i : Int))), _, fun j hj => hj, fun s H C cl fp => (gv_name 15 sc_law.nd), by walk_at "wk", ρt S9 G10 none (dd (.int (i : Int))), fun s H C cl fp => rv_if (k1 := (decide (t.b ≤ (i : Int)) && decide ((i : Int) < t.e))) (ρ1 := ρt S9 G10 none (dd (.int (i : Int)))) (rt_chainT (rv_at (xs := [.int t.b, .int t.e, .int t.lo, .int t.hi]) (rv_name 7) rv_int .dt rfl) (rv_name 15) ov_le (fun _ => rv_at (xs := [.int t.b, .int t.e, .int t.lo, .int t.hi]) (rv_name 7) rv_int .dt rfl) (fun _ => ov_lt)) (fun h => rv_eqD (rv_name 10) ?_) (fun h => rv_eqD (rv_strE tl_dot) ?_), by walk_at "wk"⟩
    · rw [Bool.and_eq_true, decide_eq_true_eq, decide_eq_true_eq] at h
      show TX [sgC ms t] = TX [if t.b ≤ (i : Int) ∧ (i : Int) < t.e then sgC ms t else 46]
      rw [if_pos h]
    · have h : ¬ (t.b ≤ (i : Int) ∧ (i : Int) < t.e) := fun z => by
        rw [decide_eq_true z.1, decide_eq_true z.2] at h
        cases h
      show TX [46] = TX [if t.b ≤ (i : Int) ∧ (i : Int) < t.e then sgC ms t else 46]
      rw [if_neg h]
  · have := sum_le (l := (List.range ms.length).map fun (i : Nat) => [if t.b ≤ (i : Int) ∧ (i : Int) < t.e then sgC ms t else 46]) (k := 1) fun p hp => by
      obtain ⟨i, _, rfl⟩ := List.mem_map.mp hp
      exact Nat.le_refl 1
    rw [List.length_map, List.length_range] at this ⊢
    show _ + ms.length * 0 ≤ 100000
    omega
  have nl : (nm (sg ms t)).length ≤ 3 := nm_len (by omega)
  exact rss_weak (rss_one (rs_if (k1 := !decide (drL ms t = drB ms t ++ [32] ++ nm (sg ms t))) (ρ1 := ρt S9 G10 (dd (TX (drB ms t))) none) (rt_cmp (rv_name 8) (rv_bin (rv_bin (rv_name 11) (rv_strE tl_sp) (ov_catX (by show (drB ms t).length + 1 ≤ _; omega))) (rv_callTy (ra_cons (rv_eqD (rv_name 9) (congrArg PyData.int (show sg ms t = ((sg ms t).toNat : Int) by omega))) ra_nil) (cv_strN (by omega)) T.b_str) (ov_catX (by rw [List.length_append]; show (drB ms t).length + 1 + (nm (sg ms t)).length ≤ _; omega))) ov_neX) (fun h => by rw [decide_eq_true edr] at h; cases h) fun _ => rss_nil)) (by walk_at "wk")
theorem spot_b (T : Txt P w K mg base TT C) (R : RfT P w K mg base "_law_refused" C "name") {cdv : Value} {A : Around} {outer : List Env} {s : Shared} {H : Hp} {E : XK} (hr : Room 12 (CxD P w K mg base N_law "law" s_law (He.ga K "law") cdv A outer s H E).A) (ecd : cdv = .ref (He.codeOf K ("law", none))) {ns : List Int} {d : Dice} {k : Nat} (dk : Dok k d) (hkk : k ≤ 800) {spot : Int} {ms : List Int} {ts : List Th} (ma : areIn (.tuple (ms.map .int)) 0 12 0 9 = true) (hk : HOk ms.length ts) :
    RSs (CxD P w K mg base N_law "law" s_law (He.ga K "law") cdv A outer s H E) ⟨TT, noφ⟩ ⟨C, "name", E⟩ (bodyL.drop 2) (RR ns spot d ms ts none none none none none none none none none none none none) (.nx (R0 ns)) := by
  have hu : (CxD P w K mg base N_law "law" s_law (He.ga K "law") cdv A outer s H E).A.units + 64 < cLine := hr.units
  have mk := areIn_ms ma
  have hl := hsT_len mk hk
  have hrd := rdD_own mk ma hk
  have wh : S_wh [.tuple (ms.map .int), TD ts] (.ret (.da (TX (hsT ms ts)))) := ⟨_, _, rfl, .inr ⟨ms, ts, rfl, rfl, ma, hk, rfl⟩⟩
  have lt : S_ltx [.tuple (ms.map .int), TD ts] (.ret (.da (TX (hsT ms ts)))) := ⟨ms, ts, rfl, mk, hk, rfl⟩
  have td : S_lrd [TX (hsT ms ts)] (.ret (.da (.tuple [.tuple (ms.map .int), TD ts]))) := ⟨hsT ms ts, rfl, by omega, by rw [hrd]⟩
  generalize hsT ms ts = own at hl wh lt td
  clear hrd
  let ρ0 : Dice → Option Dt → Option Dt → Option Dt → Rho := fun d ow te tu => RR ns spot d ms ts ow te tu none none none none none none none none none
  let O3 : Option Dt := dd (TX own)
  refine rss_cons (rs_set 3 (z := TX own) (ρ1 := ρ0 d none none none) (rv_call (xs := [_, _]) (df__law_text T) (by walk_at "room") (ra_cons (by first | exact rv_name 13 | exact rv_slot 13) (ra_cons (by first | exact rv_name 14 | exact rv_slot 14) ra_nil)) lt) sc_law.nd) ?_
  refine rss_cons (rs_if (k1 := (!decide (own = own) || !PyData.eqv (.tuple [.tuple (ms.map .int), TD ts]) (.tuple [.tuple (ms.map .int), TD ts]))) (ρ1 := ρ0 d O3 none none) (rt_w (rw_or (rt_cmp (rv_callK (xs := [_, _]) ["things", "most"] [1, 0] (df_write_house T) (by walk_at "room") (rk_cons (by first | exact rv_name 14 | exact rv_slot 14) (rk_cons (by first | exact rv_name 13 | exact rv_slot 13) rk_nil)) wh) (rv_name 3) ov_neX) fun _ => rw_or1 (rt_cmp (rv_call (xs := [_]) (df__law_told T) (by walk_at "room") (ra_cons (by first | exact rv_name 3 | exact rv_slot 3) ra_nil) td) (rv_tup (xs := [_, _]) (ra_cons (by first | exact rv_name 13 | exact rv_slot 13) (ra_cons (by first | exact rv_name 14 | exact rv_slot 14) ra_nil))) (ov_neD hu .da .da (by rw [house_2]; exact house2_shaped _ _) (by rw [house_2]; exact house2_shaped _ _))))) (fun hc => by rw [house_2, house2_eqv, decide_eq_true rfl] at hc; cases hc) fun _ => rss_nil) ?_
  refine rss_cons (rs_set 4 (by first | exact rv_name 3 | exact rv_slot 3) sc_law.nd) ?_
  refine rss_cons (rs_weak (ρ1 := ρ0 (crN d own 14).1 O3 (dd (TX (crN d own 14).2)) none) (rs_eq (rs_for (xs := rngD 0 14) (fun i => ρ0 (crN d own i).1 O3 (dd (TX (crN d own i).2)) none) (iv_eq2 (iv_range1 (k := 14) T.b_range (ra_cons rv_int ra_nil) ⟨by decide, by decide⟩) rfl rfl) (passes_of rfl) rfl fun i x hx => ?_) rfl) (by walk_at "wk")) (spot_c T R hr ecd ma hk)
  obtain ⟨rfl, hi⟩ := rngD_get' hx
  have k1 := crN_ok (own := own) dk i
  have ll := crN_len (d := d) hl i
  have l2 := crN_len (d := d) hl (i + 1)
  have l1 : (crN d own i).2.length ≤ 1788 := by split at ll <;> omega
  have l2 : (crN d own (i + 1)).2.length ≤ 1788 := by split at l2 <;> omega
  have e1 : crN d own (i + 1) = (chE (crN d own i).1 (if i % 2 = 0 then own else (crN d own i).2), chT (crN d own i).1 (if i % 2 = 0 then own else (crN d own i).2)) := rfl
  rw [e1] at l2 ⊢
  generalize crN d own i = st at k1 l1 l2
  obtain ⟨e, x⟩ := st
  have l1 : x.length ≤ 1788 := l1
  have ch : S_lch e.l [TX (if i % 2 = 0 then own else x)] (.ret (.da (TX (chT e (if i % 2 = 0 then own else x))))) (chE e (if i % 2 = 0 then own else x)).l := ⟨_, e, _, by omega, by split <;> omega, k1, rfl, rfl, rfl, rfl⟩
  have l2 : (chT e (if i % 2 = 0 then own else x)).length ≤ 1788 := l2
  show ∃ ρ' js, _ ∧ (RSs _ _ _ _ ρ' (.nx (ρ0 (chE e (if i % 2 = 0 then own else x)) O3 (dd (TX (chT e (if i % 2 = 0 then own else x)))) none)) ∨ _)
  generalize hsrc : (if i % 2 = 0 then own else x) = src at ch l2
  generalize chE e src = e2 at ch
  generalize chT e src = y at ch l2
  let ρt : Dice → List Nat → Rho := fun d x => ρ0 d O3 (dd (TX x)) (dd (.int (i : Int)))
  have rd : S_lrd [TX y] (.ret (.da (rdD (rdO y)))) := ⟨y, rfl, by omega, rfl⟩
  refine ⟨ρt e x, _, (gv_name 5 sc_law.nd), .inl ?_⟩
  refine rss_cons (rs_set 4 (z := TX y) (ρ1 := ρt e2 x) (rv_callO (xs := [_]) 2 (df__law_changed T) (by walk_at "room") (ra_cons (ρ1 := ρt e x) (rv_slot 2) (ra_cons (rv_if (r := .da (TX src)) (k1 := decide ((i : Int) % 2 = 0)) (ρ1 := ρt e x) (ρ2 := ρt e x) (rt_cmp (rv_bin (rv_name 5) rv_int (ov_mod (by decide))) rv_int ov_eqI) (fun h => rv_eqD (rv_name 3) ?_) (fun h => rv_eqD (rv_name 4) ?_)) ra_nil)) (by rfl) ch) sc_law.nd) ?_
  · have h := of_decide_eq_true h
    rw [← hsrc, if_pos (by omega)]
  · have h := of_decide_eq_false h
    rw [← hsrc, if_neg (by omega)]
  exact rss_weak (rss_one (rs_if (k1 := !PyData.eqv (rdD (rdO y)) (rdD (rdO y))) (ρ1 := ρt e2 y) (rt_cmp (rv_call (xs := [_]) (df__law_told T) (by walk_at "room") (ra_cons (by first | exact rv_name 4 | exact rv_slot 4) ra_nil) rd) (rv_call (xs := [_]) (df__law_read T) (by walk_at "room") (ra_cons (by first | exact rv_name 4 | exact rv_slot 4) ra_nil) rd) (ov_neD hu .da .da (rdD_shaped _) (rdD_shaped _))) (fun h => by rw [rdD_eqv] at h; cases h) fun _ => rss_nil)) (by walk_at "wk")
theorem spot_ok (T : Txt P w K mg base TT C) (R : RfT P w K mg base "_law_refused" C "name") {cdv : Value} {A : Around} {outer : List Env} {s : Shared} {H : Hp} {E : XK} (hr : Room 12 (CxD P w K mg base N_law "law" s_law (He.ga K "law") cdv A outer s H E).A) (ecd : cdv = .ref (He.codeOf K ("law", none))) {ns : List Int} {spot : Nat} (hl : ns.length ≤ 63) (hs : spot ≤ 8) :
    RSs (CxD P w K mg base N_law "law" s_law (He.ga K "law") cdv A outer s H E) ⟨TT, noφ⟩ ⟨C, "name", E⟩ bodyL ((R0 ns).set 1 (dd (.int (spot : Int)))) (.nx (R0 ns)) := by
  have k0 := dice0_ok (ns := ns) hs
  generalize hd0 : dice0 ns spot = d0 at k0
  have sl : S_lh d0.l [] (.ret (.da (.tuple [.tuple ((lhM d0).map .int), TD (lhT d0)]))) (lhE d0).l := ⟨_, d0, by omega, k0, rfl, rfl, rfl, rfl⟩
  have k1 := lhE_ok k0
  have mk := lhM_ok d0
  have hk := lhT_ok d0
  generalize lhM d0 = ms at sl mk hk
  generalize lhT d0 = ts at sl hk
  generalize lhE d0 = d1 at sl k1
  have mll := mk.len
  have ma : areIn (.tuple (ms.map .int)) 0 12 0 9 = true := by
    show (isTup (.tuple (ms.map .int)) 0 12 && (ms.map PyData.int).all fun x => isIn x 0 9) = true
    rw [Bool.and_eq_true]
    constructor
    · show (decide ((0 : Int) ≤ ((ms.map PyData.int).length : Int)) && decide (((ms.map PyData.int).length : Int) ≤ 12)) = true
      rw [List.length_map, decide_eq_true (by omega), decide_eq_true (by omega)]
      rfl
    · rw [List.all_map, List.all_eq_true]
      intro i hi
      have := mk.ok i hi
      exact isIn_int this.1 this.2
  refine rss_cons (rs_setL 2 (zs := d0.l) (rv_call (xs := [_, _]) (df__law_dice T) (by walk_at "room") (ra_cons (by first | exact rv_name 0 | exact rv_slot 0) (ra_cons (by first | exact rv_name 1 | exact rv_slot 1) ra_nil)) ⟨ns, spot, hl, hs, rfl, by rw [hd0]⟩) sc_law.nd) ?_
  refine rss_cons (rs_asg (z := .tuple [.tuple (ms.map .int), TD ts]) (ρ1 := [dd (.list (ns.map .int)), dd (.int (spot : Int)), oo d1.l, none, none, none, none, none, none, none, none, none, none, none, none, none, none]) (ρ2 := RR ns (spot : Int) d1 ms ts none none none none none none none none none none none none) (rv_callO (xs := []) 2 (df__law_house T) (by walk_at "room") (ra_cons (by first | exact rv_name 2 | exact rv_slot 2) ra_nil) (by rfl) sl) (gv_tup rfl (gvs_cons (tgs := []) (gv_name 13 sc_law.nd) (gvs_cons (tgs := []) (gv_name 14 sc_law.nd) gvs_nil)))) ?_
  exact spot_b T R hr ecd k1 (by omega) ma hk
end
end KX

set_option Elab.async false
set_option linter.all false
set_option maxRecDepth 100000
set_option maxHeartbeats 4000000
namespace KX
open PySem PySem.Spec PyProof.Rows L2 Dn TL
local macro_rules | `(tactic| walk_at "ovAdd") => `(tactic| first | exact ov_add | exact ov_catT (by walk_at "side"))
local macro_rules | `(tactic| walk_at "ovSub") => `(tactic| exact ov_sub)
local macro_rules | `(tactic| walk_at "ovMult") => `(tactic| first | exact ov_mul (by walk_at "side") | exact ov_mulW (by walk_at "side"))
local macro_rules | `(tactic| walk_at "ovMod") => `(tactic| exact ov_mod (by walk_at "side"))
local macro_rules | `(tactic| walk_at "ovFloorDiv") => `(tactic| first | exact ov_fdiv ⟨by omega, by omega⟩ | exact ov_fdivW (by walk_at "side"))
local macro_rules | `(tactic| walk_at "ovPow") => `(tactic| exact ov_pow ⟨by decide, by decide, by decide⟩)
local macro_rules | `(tactic| walk_at "side") => `(tactic| first | omega | assumption | (exact .inl ⟨by omega, by omega⟩) | (exact .inr ⟨by omega, by omega⟩) | decide)
local macro_rules | `(tactic| walk_at "ovLt") => `(tactic| exact ov_lt)
local macro_rules | `(tactic| walk_at "ovLtE") => `(tactic| exact ov_le)
local macro_rules | `(tactic| walk_at "ovGt") => `(tactic| exact ov_gt)
local macro_rules | `(tactic| walk_at "ovGtE") => `(tactic| exact ov_ge)
local macro_rules | `(tactic| walk_at "ovEq") => `(tactic| first | exact ov_eqI | exact ov_eqB)
local macro_rules | `(tactic| walk_at "ovNotEq") => `(tactic| first | exact ov_neI | exact ov_neB)
local macro_rules | `(tactic| walk_at "ovIs") => `(tactic| first | exact ov_isN | exact ov_isB)
local macro_rules | `(tactic| walk_at "ovIsNot") => `(tactic| first | exact ov_notN | exact ov_notB)
local macro_rules | `(tactic| walk_at "vw") => `(tactic| first | exact Vw.dl | exact Vw.dt | exact Vw.li | exact Vw.sl rfl)
local macro_rules | `(tactic| walk_at "dv") => `(tactic| first | exact Dv.da | exact Dv.li | exact Dv.sl rfl)
local macro_rules | `(tactic| walk_at "at") => `(tactic| first | rfl | assumption)
local macro_rules | `(tactic| walk_at "isi") => `(tactic| first | exact kb_int _ | exact kb_bool _ | exact kb_tuple _ | exact kb_str _)
local macro_rules | `(tactic| walk_at "room") => `(tactic| exact Room.mono (by assumption) (by decide))
local macro_rules | `(tactic| walk_at "cvlen") => `(tactic| exact cv_len (by walk_at "vw"))
local macro_rules | `(tactic| walk_at "cvabs") => `(tactic| exact cv_abs)
local macro_rules | `(tactic| walk_at "cvint") => `(tactic| exact cv_int)
local macro_rules | `(tactic| walk_at "cvmax") => `(tactic| exact cv_max2 rfl)
local macro_rules | `(tactic| walk_at "cvmin") => `(tactic| exact cv_min2 rfl)
local macro_rules | `(tactic| walk_at "cvtuple") => `(tactic| exact cv_tuple (by walk_at "vw"))
local macro_rules | `(tactic| walk_at "cvlist") => `(tactic| exact cv_list (by walk_at "vw"))
local macro_rules | `(tactic| walk_at "wk") => `(tactic| repeat (first | exact Wk.nil | refine Wk.same ?_ | refine Wk.drop ?_))
local macro_rules | `(tactic| walk_at "rng") => `(tactic| (refine ⟨?_, ?_⟩ <;> omega))

local macro_rules | `(tactic| walk_at "sp") => `(tactic| first | exact ⟨_, rfl, rfl⟩ | exact ⟨_, _, rfl, rfl⟩ | exact ⟨_, _, _, rfl, rfl⟩)
def lnT : List Nat := [10] ++ o1
def d1T : List Nat := daysL ++ [32, 49]
theorem tl_ln : tl (Str.ofString "\nthing 0 1 0 0") = lnT := by decide +kernel
theorem tl_d1 : tl (Str.ofString "days 1") = d1T := by decide +kernel
theorem tl_12 : tl (Str.ofString "12") = [49, 50] := by decide +kernel
theorem tl_pp : tl (Str.ofString "++ 3") = [43, 43, 32, 51] := by decide +kernel
def longT : List Nat := d1T ++ (List.replicate 7 lnT).flatten
theorem c1 : rdO longT = .inl 8 := by decide +kernel
theorem c2 : rdO [] = .inl 1 := by decide +kernel
theorem c3 : rdO daysL = .inr ([], []) := by decide +kernel
def tA : Th := ⟨0, 2, 0, 2⟩
theorem tA_ok : HOk ((2 : Nat) : Int) [tA] := ⟨by decide, fun t ht => by rw [List.mem_singleton.mp ht]; exact ⟨by decide, by decide, by decide, by decide, by decide, by decide, by decide, by decide⟩⟩
theorem c4 : drLs [1, 2] [tA] = [[49, 50], [43, 43, 32, 51]] := by decide +kernel
theorem tail_ok {P : Program} {w : World} {K : PySem.W.Frag} {mg : Str → Option Value} {base : Heap} {TT : List (Addr × Str)} {C : Addr} (T : Txt P w K mg base TT C)
    {cdv : Value} {A : Around} {outer : List Env} {s : Shared} {H : Hp} {E : XK} (hr : Room 13 (CxD P w K mg base N_law "law" s_law (He.ga K "law") cdv A outer s H E).A) (ns : List Int) :
    RSf (CxD P w K mg base N_law "law" s_law (He.ga K "law") cdv A outer s H E) ⟨TT, noφ⟩ ⟨C, "name", E⟩ ((defBody s_law).drop 1) (R0 ns) (.ret (.da (.bool true))) := by
  have hu : (CxD P w K mg base N_law "law" s_law (He.ga K "law") cdv A outer s H E).A.units + 64 < cLine := hr.units
  let ρ0 : Rho := [dd (.list (ns.map .int)), none, none, none, none, none, none, none, dd (TX lnT), none, none, none, none, none, none, none, none]
  refine rf_cons (rs_set 8 (z := TX lnT) (ρ1 := R0 ns) (rv_strE tl_ln) sc_law.nd) ?_
  have w1 : S_lrd [TX longT] (.ret (.da (.int 8))) := ⟨longT, rfl, by decide, by rw [c1]; rfl⟩
  have w2 : S_lrd [TX []] (.ret (.da (.int 1))) := ⟨[], rfl, by decide, by rw [c2]; rfl⟩
  have w3 : S_lrd [TX daysL] (.ret (.da (.tuple [.tuple [], .tuple []]))) := ⟨daysL, rfl, by decide, by rw [c3]; rfl⟩
  have w4 : S_dr [.tuple [.int 1, .int 2], .tuple [.tuple [.int 0, .int 2, .int 0, .int 2]]] (.ret (.da (.tuple [TX [49, 50], TX [43, 43, 32, 51]]))) := ⟨_, _, rfl, .inr ⟨[1, 2], rfl, by decide +kernel, .inr ⟨[tA], rfl, tA_ok, by rw [c4]; rfl⟩⟩⟩
  exact rf_true
    (rv_and (rv_cmp (ρ1 := ρ0) (rv_call (xs := [_]) (df__law_told T) (by walk_at "room") (ra_cons (rv_bin (rv_strE tl_d1) (rv_bin (rv_name 8) rv_int (ov_repX (n := 7) (by decide) (by decide) (by decide) (by decide))) (ov_catX (by decide))) ra_nil) w1) rv_int ov_eqI) fun _ => rv_and (rv_cmp (rv_call (xs := [_]) (df__law_told T) (by walk_at "room") (ra_cons (rv_strE tl_no) ra_nil) w2) rv_int ov_eqI) fun _ => rv_and (rv_cmp (rv_call (xs := [_]) (df__law_told T) (by walk_at "room") (ra_cons (rv_strE tl_days) ra_nil) w3) (rv_tup (xs := [_, _]) (ra_cons (rv_tup (xs := []) ra_nil) (ra_cons (rv_tup (xs := []) ra_nil) ra_nil))) (ov_eqD hu .da .da rfl rfl)) fun _ => rv_and1 (rv_cmp (rv_call (xs := [_, _]) (df_draw T) (by walk_at "room") (ra_cons (rv_tup (xs := [_, _]) (ra_cons rv_int (ra_cons rv_int ra_nil))) (ra_cons (rv_tup (xs := [_]) (ra_cons (rv_tup (xs := [_, _, _, _]) (ra_cons rv_int (ra_cons rv_int (ra_cons rv_int (ra_cons rv_int ra_nil))))) ra_nil)) ra_nil)) w4) (rv_tup (xs := [TX [49, 50], TX [43, 43, 32, 51]]) (ra_cons (rv_strE tl_12) (ra_cons (rv_strE tl_pp) ra_nil))) (ov_eqD hu .da .da (by decide +kernel) (by decide +kernel)))) (by decide +kernel)
abbrev lawK : Nat := 14
def S_law (xs : List PyData) (oc : Oc) : Prop := ∃ ns : List Int, ns.length ≤ 63 ∧ xs = [.list (ns.map .int)] ∧ oc = .ret (.da (.bool true))
theorem ok_law {P : Program} {w : World} {K : PySem.W.Frag} {mg : Str → Option Value} {base : Heap} {TT : List (Addr × Str)} {C : Addr} {fd : FuncData} (T : Txt P w K mg base TT C) (R : RfT P w K mg base "_law_refused" C "name")
    (F : Fun K "law" "law" s_law (He.ga K "law") fd) : FnOk P w K mg base (L2.CX P w) lawK (He.ga K "law") fd ["script"] (spP K TT C "name" S_law) := by
  refine ok_pureC F sc_law (fun xs oc h => by obtain ⟨_, _, rfl, _⟩ := h; rfl) fun cdv A outer s H E ecd hr xs oc hS => ?_
  obtain ⟨ns, hl, rfl, rfl⟩ := hS
  refine rf_cons (rs_for (fun _ => R0 ns) (iv_range1 T.b_range (ra_cons (rv_callB (ra_cons rv_int (ra_cons (rv_callB (ra_cons rv_int (ra_cons (rv_callB (ra_cons (by first | exact rv_name 0 | exact rv_slot 0) ra_nil) (by walk_at "cvlen") T.b_len) ra_nil)) (by walk_at "cvmin") T.b_min) ra_nil)) (by walk_at "cvmax") T.b_max) ra_nil) (by walk_at "rng")) (passes_of rfl) rfl fun i x hx => ?_) ?_
  · obtain ⟨rfl, hi⟩ := rngD_get' hx
    have h8 : i ≤ 8 := by
      have : i < (if (if (((ns.map PyData.int).length : Nat) : Int) < 8 then (((ns.map PyData.int).length : Nat) : Int) else 8) > 1 then (if (((ns.map PyData.int).length : Nat) : Int) < 8 then (((ns.map PyData.int).length : Nat) : Int) else 8) else 1).toNat := hi
      split at this
      · split at this <;> omega
      · omega
    exact ⟨_, _, (gv_name 1 sc_law.nd), .inl (spot_ok T R (Room.mono hr (by decide)) ecd hl h8)⟩
  · exact tail_ok T (Room.mono hr (by decide)) ns
end KX

set_option Elab.async false
set_option linter.all false
set_option maxRecDepth 100000
set_option maxHeartbeats 1000000
namespace KX
open PySem PySem.Spec PyProof.Rows L2 Dn
namespace Hd
def clsB (st : Stmt) : List Stmt := match st with
  | .ClassDef _ _ _ b _ _ _ _ _ _ _ => b
  | _ => []
abbrev i_BadArgument : Stmt := (clsB (topS 2)).getD 0 (.Pass ⟨0, 0, 0, 0⟩)
def ex_BadArgument : ExD := ⟨"BadArgument", "name", "BadArgument.__init__", "/claim/cut.py", defArgs i_BadArgument, defBody i_BadArgument, defScope i_BadArgument⟩

abbrev i_BadText : Stmt := (clsB (topS 3)).getD 0 (.Pass ⟨0, 0, 0, 0⟩)
def ex_BadText : ExD := ⟨"BadText", "line", "BadText.__init__", "/claim/cut.py", defArgs i_BadText, defBody i_BadText, defScope i_BadText⟩
def exs : List ExD := [ex_BadArgument, ex_BadText]
def fa : List He.Fa := [.free "enumerate", .free "tuple", .free "range", .free "isinstance", .free "int", .free "all", .free "sum", .free "max", .free "zip", .free "bool", .free "len", .free "str", .free "abs", .free "min", .free "super", .int "MOST_DAYS" 12, .int "MOST_FIRES" 9, .int "MOST_THINGS" 6, .int "MOST_NEED" 120, .int "MOST_TEXT" 2000, .str "DIGITS" "0123456789", .glo "demand", .glo "is_in", .glo "is_tuple", .glo "are_in", .glo "is_thing", .glo "demand_house", .glo "write_house", .glo "number_of", .glo "numbers_of", .glo "read_house", .glo "draw", .glo "_law_dice", .glo "_law_roll", .glo "_law_pick", .glo "_law_refused", .glo "_law_house", .glo "_law_text", .glo "_law_numbers", .glo "_law_read", .glo "_law_told", .glo "_law_changed", .glo "law"]
def d_demand : He.DefD := ddOf "demand" s_demand
def d_is_in : He.DefD := ddOf "is_in" s_is_in
def d_is_tuple : He.DefD := ddOf "is_tuple" s_is_tuple
def d_are_in : He.DefD := ddOf "are_in" s_are_in
def d_is_thing : He.DefD := ddOf "is_thing" s_is_thing
def d_demand_house : He.DefD := ddOf "demand_house" s_demand_house
def d_write_house : He.DefD := ddOf "write_house" s_write_house
def d_number_of : He.DefD := ddOf "number_of" s_number_of
def d_numbers_of : He.DefD := ddOf "numbers_of" s_numbers_of
def d_read_house : He.DefD := ddOf "read_house" s_read_house
def d_draw : He.DefD := ddOf "draw" s_draw
def d__law_dice : He.DefD := ddOf "_law_dice" s__law_dice
def d__law_roll : He.DefD := ddOf "_law_roll" s__law_roll
def d__law_pick : He.DefD := ddOf "_law_pick" s__law_pick
def d__law_refused : He.DefD := ddOf "_law_refused" s__law_refused
def d__law_house : He.DefD := ddOf "_law_house" s__law_house
def d__law_text : He.DefD := ddOf "_law_text" s__law_text
def d__law_numbers : He.DefD := ddOf "_law_numbers" s__law_numbers
def d__law_read : He.DefD := ddOf "_law_read" s__law_read
def d__law_told : He.DefD := ddOf "_law_told" s__law_told
def d__law_changed : He.DefD := ddOf "_law_changed" s__law_changed
def d_law : He.DefD := ddOf "law" s_law
def fn : List He.DefD := [d_demand, d_is_in, d_is_tuple, d_are_in, d_is_thing, d_demand_house, d_write_house, d_number_of, d_numbers_of, d_read_house, d_draw, d__law_dice, d__law_roll, d__law_pick, d__law_refused, d__law_house, d__law_text, d__law_numbers, d__law_read, d__law_told, d__law_changed, d_law]
def tf : List He.Defn := [("law", none)]
def lm (p : He.Defn) : Str := p.1 ++ ".<locals>.<lambda>"
def names0 : List Str := ["__name__", "SmokeError", "BadArgument", "BadText", "demand", "is_in", "is_tuple", "are_in", "MOST_DAYS", "MOST_FIRES", "MOST_THINGS", "MOST_NEED", "is_thing", "demand_house", "MOST_TEXT", "DIGITS", "write_house", "number_of", "numbers_of", "read_house", "draw", "_law_dice", "_law_roll", "_law_pick", "_law_refused", "_law_house", "_law_text", "_law_numbers", "_law_read", "_law_told"]
def names1 : List Str := ["_law_changed"]
def names : List Str := names0 ++ names1
abbrev R : PySem.W.OpenRow := PySem.W.OpenLaw.row PySem.Challenge.rw_smokehung_k14_whole_days_and_things_as_t
abbrev hk : PySem.W.Hook := hookY 5 fa fn tf exs
def ob (s : PySem.W.SharedT) : AlY := obsY 5 fa fn tf exs (HandSHeadRun.getT s)
theorem ob_eq (s : PySem.W.SharedT) : ob s = hk.obs s.abs := obsY_eq (HandSHeadRun.getT_eq s)
set_option maxHeartbeats 0 in
theorem run (w : World) : HandSHeadRun.RunEq R (PySem.W.view R.prog [35]) hk ob 4000 names w := by
  intro os
  kernel_rfl
def CB (K : PySem.W.Frag) : Addr := He.ga K "BadArgument"
def TL (K : PySem.W.Frag) : List (Addr × Str) := tf.map fun p => ((He.cT K p).2, lm p)
theorem f_demand {K : PySem.W.Frag} {h : Heap} {mg : Str → Option Value} (X : K.In h) (G : h.Ns mainGlobals mg) (c : SaysY fa fn tf exs h K) : FT K mg "demand" s_demand ["is_good", "name"] := by
  obtain ⟨fd, F⟩ := says_fun c.t 0 (x := "demand") (st := s_demand) rfl
  obtain ⟨⟨oc, od, kV, doc, pm, an, cdv, ct, osl, e, lk, cd⟩, kp⟩ := F
  subst e
  exact ⟨_, _, ⟨⟨oc, od, kV, doc, pm, an, cdv, ct, osl, rfl, lk, cd⟩, kp⟩, He.glo_ok X G (c.t.fact 21 (f := .glo "demand") rfl), .all (fun us hl => match us, hl with | [_, _], _ => rfl), (fun q hq => nomatch hq)⟩
theorem f_is_in {K : PySem.W.Frag} {h : Heap} {mg : Str → Option Value} (X : K.In h) (G : h.Ns mainGlobals mg) (c : SaysY fa fn tf exs h K) : FT K mg "is_in" s_is_in ["value", "low", "high"] := by
  obtain ⟨fd, F⟩ := says_fun c.t 1 (x := "is_in") (st := s_is_in) rfl
  obtain ⟨⟨oc, od, kV, doc, pm, an, cdv, ct, osl, e, lk, cd⟩, kp⟩ := F
  subst e
  exact ⟨_, _, ⟨⟨oc, od, kV, doc, pm, an, cdv, ct, osl, rfl, lk, cd⟩, kp⟩, He.glo_ok X G (c.t.fact 22 (f := .glo "is_in") rfl), .all (fun us hl => match us, hl with | [_, _, _], _ => rfl), (fun q hq => nomatch hq)⟩
theorem f_is_tuple {K : PySem.W.Frag} {h : Heap} {mg : Str → Option Value} (X : K.In h) (G : h.Ns mainGlobals mg) (c : SaysY fa fn tf exs h K) : FT K mg "is_tuple" s_is_tuple ["value", "least", "most"] := by
  obtain ⟨fd, F⟩ := says_fun c.t 2 (x := "is_tuple") (st := s_is_tuple) rfl
  obtain ⟨⟨oc, od, kV, doc, pm, an, cdv, ct, osl, e, lk, cd⟩, kp⟩ := F
  subst e
  exact ⟨_, _, ⟨⟨oc, od, kV, doc, pm, an, cdv, ct, osl, rfl, lk, cd⟩, kp⟩, He.glo_ok X G (c.t.fact 23 (f := .glo "is_tuple") rfl), .all (fun us hl => match us, hl with | [_, _, _], _ => rfl), (fun q hq => nomatch hq)⟩
theorem f_are_in {K : PySem.W.Frag} {h : Heap} {mg : Str → Option Value} (X : K.In h) (G : h.Ns mainGlobals mg) (c : SaysY fa fn tf exs h K) : FT K mg "are_in" s_are_in ["value", "least", "most", "low", "high"] := by
  obtain ⟨fd, F⟩ := says_fun c.t 3 (x := "are_in") (st := s_are_in) rfl
  obtain ⟨⟨oc, od, kV, doc, pm, an, cdv, ct, osl, e, lk, cd⟩, kp⟩ := F
  subst e
  exact ⟨_, _, ⟨⟨oc, od, kV, doc, pm, an, cdv, ct, osl, rfl, lk, cd⟩, kp⟩, He.glo_ok X G (c.t.fact 24 (f := .glo "are_in") rfl), .all (fun us hl => match us, hl with | [_, _, _, _, _], _ => rfl), (fun q hq => nomatch hq)⟩
theorem f_is_thing {K : PySem.W.Frag} {h : Heap} {mg : Str → Option Value} (X : K.In h) (G : h.Ns mainGlobals mg) (c : SaysY fa fn tf exs h K) : FT K mg "is_thing" s_is_thing ["value", "days"] := by
  obtain ⟨fd, F⟩ := says_fun c.t 4 (x := "is_thing") (st := s_is_thing) rfl
  obtain ⟨⟨oc, od, kV, doc, pm, an, cdv, ct, osl, e, lk, cd⟩, kp⟩ := F
  subst e
  exact ⟨_, _, ⟨⟨oc, od, kV, doc, pm, an, cdv, ct, osl, rfl, lk, cd⟩, kp⟩, He.glo_ok X G (c.t.fact 25 (f := .glo "is_thing") rfl), .all (fun us hl => match us, hl with | [_, _], _ => rfl), (fun q hq => nomatch hq)⟩
theorem f_demand_house {K : PySem.W.Frag} {h : Heap} {mg : Str → Option Value} (X : K.In h) (G : h.Ns mainGlobals mg) (c : SaysY fa fn tf exs h K) : FT K mg "demand_house" s_demand_house ["most", "things"] := by
  obtain ⟨fd, F⟩ := says_fun c.t 5 (x := "demand_house") (st := s_demand_house) rfl
  obtain ⟨⟨oc, od, kV, doc, pm, an, cdv, ct, osl, e, lk, cd⟩, kp⟩ := F
  subst e
  exact ⟨_, _, ⟨⟨oc, od, kV, doc, pm, an, cdv, ct, osl, rfl, lk, cd⟩, kp⟩, He.glo_ok X G (c.t.fact 26 (f := .glo "demand_house") rfl), .all (fun us hl => match us, hl with | [_, _], _ => rfl), (fun q hq => nomatch hq)⟩
theorem f_write_house {K : PySem.W.Frag} {h : Heap} {mg : Str → Option Value} (X : K.In h) (G : h.Ns mainGlobals mg) (c : SaysY fa fn tf exs h K) : FT K mg "write_house" s_write_house ["most", "things"] kb_write_house := by
  obtain ⟨fd, F⟩ := says_fun c.t 6 (x := "write_house") (st := s_write_house) rfl
  obtain ⟨⟨oc, od, kV, doc, pm, an, cdv, ct, osl, e, lk, cd⟩, kp⟩ := F
  subst e
  exact ⟨_, _, ⟨⟨oc, od, kV, doc, pm, an, cdv, ct, osl, rfl, lk, cd⟩, kp⟩, He.glo_ok X G (c.t.fact 27 (f := .glo "write_house") rfl), .all (fun us hl => match us, hl with | [_, _], _ => rfl), (fun q hq => by
      simp only [kb_write_house, List.mem_cons, List.not_mem_nil, or_false] at hq
      subst hq
      all_goals exact fun s ws _ hl => match ws, hl with | [_, _], _ => .of_eq rfl)⟩
theorem f_number_of {K : PySem.W.Frag} {h : Heap} {mg : Str → Option Value} (X : K.In h) (G : h.Ns mainGlobals mg) (c : SaysY fa fn tf exs h K) : FT K mg "number_of" s_number_of ["word"] := by
  obtain ⟨fd, F⟩ := says_fun c.t 7 (x := "number_of") (st := s_number_of) rfl
  obtain ⟨⟨oc, od, kV, doc, pm, an, cdv, ct, osl, e, lk, cd⟩, kp⟩ := F
  subst e
  exact ⟨_, _, ⟨⟨oc, od, kV, doc, pm, an, cdv, ct, osl, rfl, lk, cd⟩, kp⟩, He.glo_ok X G (c.t.fact 28 (f := .glo "number_of") rfl), .all (fun us hl => match us, hl with | [_], _ => rfl), (fun q hq => nomatch hq)⟩
theorem f_numbers_of {K : PySem.W.Frag} {h : Heap} {mg : Str → Option Value} (X : K.In h) (G : h.Ns mainGlobals mg) (c : SaysY fa fn tf exs h K) : FT K mg "numbers_of" s_numbers_of ["line", "first"] := by
  obtain ⟨fd, F⟩ := says_fun c.t 8 (x := "numbers_of") (st := s_numbers_of) rfl
  obtain ⟨⟨oc, od, kV, doc, pm, an, cdv, ct, osl, e, lk, cd⟩, kp⟩ := F
  subst e
  exact ⟨_, _, ⟨⟨oc, od, kV, doc, pm, an, cdv, ct, osl, rfl, lk, cd⟩, kp⟩, He.glo_ok X G (c.t.fact 29 (f := .glo "numbers_of") rfl), .all (fun us hl => match us, hl with | [_, _], _ => rfl), (fun q hq => nomatch hq)⟩
theorem f_read_house {K : PySem.W.Frag} {h : Heap} {mg : Str → Option Value} (X : K.In h) (G : h.Ns mainGlobals mg) (c : SaysY fa fn tf exs h K) : FT K mg "read_house" s_read_house ["text"] kb_read_house := by
  obtain ⟨fd, F⟩ := says_fun c.t 9 (x := "read_house") (st := s_read_house) rfl
  obtain ⟨⟨oc, od, kV, doc, pm, an, cdv, ct, osl, e, lk, cd⟩, kp⟩ := F
  subst e
  exact ⟨_, _, ⟨⟨oc, od, kV, doc, pm, an, cdv, ct, osl, rfl, lk, cd⟩, kp⟩, He.glo_ok X G (c.t.fact 30 (f := .glo "read_house") rfl), .all (fun us hl => match us, hl with | [_], _ => rfl), (fun q hq => by
      simp only [kb_read_house, List.mem_cons, List.not_mem_nil, or_false] at hq
      subst hq
      all_goals exact fun s ws _ hl => match ws, hl with | [_], _ => .of_eq rfl)⟩
theorem f_draw {K : PySem.W.Frag} {h : Heap} {mg : Str → Option Value} (X : K.In h) (G : h.Ns mainGlobals mg) (c : SaysY fa fn tf exs h K) : FT K mg "draw" s_draw ["plan", "things"] kb_draw := by
  obtain ⟨fd, F⟩ := says_fun c.t 10 (x := "draw") (st := s_draw) rfl
  obtain ⟨⟨oc, od, kV, doc, pm, an, cdv, ct, osl, e, lk, cd⟩, kp⟩ := F
  subst e
  exact ⟨_, _, ⟨⟨oc, od, kV, doc, pm, an, cdv, ct, osl, rfl, lk, cd⟩, kp⟩, He.glo_ok X G (c.t.fact 31 (f := .glo "draw") rfl), .all (fun us hl => match us, hl with | [_, _], _ => rfl), (fun q hq => by
      simp only [kb_draw, List.mem_cons, List.not_mem_nil, or_false] at hq
      subst hq
      all_goals exact fun s ws _ hl => match ws, hl with | [_, _], _ => .of_eq rfl)⟩
theorem f__law_dice {K : PySem.W.Frag} {h : Heap} {mg : Str → Option Value} (X : K.In h) (G : h.Ns mainGlobals mg) (c : SaysY fa fn tf exs h K) : FT K mg "_law_dice" s__law_dice ["script", "spot"] := by
  obtain ⟨fd, F⟩ := says_fun c.t 11 (x := "_law_dice") (st := s__law_dice) rfl
  obtain ⟨⟨oc, od, kV, doc, pm, an, cdv, ct, osl, e, lk, cd⟩, kp⟩ := F
  subst e
  exact ⟨_, _, ⟨⟨oc, od, kV, doc, pm, an, cdv, ct, osl, rfl, lk, cd⟩, kp⟩, He.glo_ok X G (c.t.fact 32 (f := .glo "_law_dice") rfl), .all (fun us hl => match us, hl with | [_, _], _ => rfl), (fun q hq => nomatch hq)⟩
theorem f__law_roll {K : PySem.W.Frag} {h : Heap} {mg : Str → Option Value} (X : K.In h) (G : h.Ns mainGlobals mg) (c : SaysY fa fn tf exs h K) : FT K mg "_law_roll" s__law_roll ["dice", "total"] := by
  obtain ⟨fd, F⟩ := says_fun c.t 12 (x := "_law_roll") (st := s__law_roll) rfl
  obtain ⟨⟨oc, od, kV, doc, pm, an, cdv, ct, osl, e, lk, cd⟩, kp⟩ := F
  subst e
  exact ⟨_, _, ⟨⟨oc, od, kV, doc, pm, an, cdv, ct, osl, rfl, lk, cd⟩, kp⟩, He.glo_ok X G (c.t.fact 33 (f := .glo "_law_roll") rfl), .all (fun us hl => match us, hl with | [_, _], _ => rfl), (fun q hq => nomatch hq)⟩
theorem f__law_pick {K : PySem.W.Frag} {h : Heap} {mg : Str → Option Value} (X : K.In h) (G : h.Ns mainGlobals mg) (c : SaysY fa fn tf exs h K) : FT K mg "_law_pick" s__law_pick ["dice", "things"] := by
  obtain ⟨fd, F⟩ := says_fun c.t 13 (x := "_law_pick") (st := s__law_pick) rfl
  obtain ⟨⟨oc, od, kV, doc, pm, an, cdv, ct, osl, e, lk, cd⟩, kp⟩ := F
  subst e
  exact ⟨_, _, ⟨⟨oc, od, kV, doc, pm, an, cdv, ct, osl, rfl, lk, cd⟩, kp⟩, He.glo_ok X G (c.t.fact 34 (f := .glo "_law_pick") rfl), .all (fun us hl => match us, hl with | [_, _], _ => rfl), (fun q hq => nomatch hq)⟩
theorem f__law_refused {K : PySem.W.Frag} {h : Heap} {mg : Str → Option Value} (X : K.In h) (G : h.Ns mainGlobals mg) (c : SaysY fa fn tf exs h K) : FT K mg "_law_refused" s__law_refused ["call"] := by
  obtain ⟨fd, F⟩ := says_fun c.t 14 (x := "_law_refused") (st := s__law_refused) rfl
  obtain ⟨⟨oc, od, kV, doc, pm, an, cdv, ct, osl, e, lk, cd⟩, kp⟩ := F
  subst e
  exact ⟨_, _, ⟨⟨oc, od, kV, doc, pm, an, cdv, ct, osl, rfl, lk, cd⟩, kp⟩, He.glo_ok X G (c.t.fact 35 (f := .glo "_law_refused") rfl), .all (fun us hl => match us, hl with | [_], _ => rfl), (fun q hq => nomatch hq)⟩
theorem f__law_house {K : PySem.W.Frag} {h : Heap} {mg : Str → Option Value} (X : K.In h) (G : h.Ns mainGlobals mg) (c : SaysY fa fn tf exs h K) : FT K mg "_law_house" s__law_house ["dice"] := by
  obtain ⟨fd, F⟩ := says_fun c.t 15 (x := "_law_house") (st := s__law_house) rfl
  obtain ⟨⟨oc, od, kV, doc, pm, an, cdv, ct, osl, e, lk, cd⟩, kp⟩ := F
  subst e
  exact ⟨_, _, ⟨⟨oc, od, kV, doc, pm, an, cdv, ct, osl, rfl, lk, cd⟩, kp⟩, He.glo_ok X G (c.t.fact 36 (f := .glo "_law_house") rfl), .all (fun us hl => match us, hl with | [_], _ => rfl), (fun q hq => nomatch hq)⟩
theorem f__law_text {K : PySem.W.Frag} {h : Heap} {mg : Str → Option Value} (X : K.In h) (G : h.Ns mainGlobals mg) (c : SaysY fa fn tf exs h K) : FT K mg "_law_text" s__law_text ["most", "things"] := by
  obtain ⟨fd, F⟩ := says_fun c.t 16 (x := "_law_text") (st := s__law_text) rfl
  obtain ⟨⟨oc, od, kV, doc, pm, an, cdv, ct, osl, e, lk, cd⟩, kp⟩ := F
  subst e
  exact ⟨_, _, ⟨⟨oc, od, kV, doc, pm, an, cdv, ct, osl, rfl, lk, cd⟩, kp⟩, He.glo_ok X G (c.t.fact 37 (f := .glo "_law_text") rfl), .all (fun us hl => match us, hl with | [_, _], _ => rfl), (fun q hq => nomatch hq)⟩
theorem f__law_numbers {K : PySem.W.Frag} {h : Heap} {mg : Str → Option Value} (X : K.In h) (G : h.Ns mainGlobals mg) (c : SaysY fa fn tf exs h K) : FT K mg "_law_numbers" s__law_numbers ["words", "most"] := by
  obtain ⟨fd, F⟩ := says_fun c.t 17 (x := "_law_numbers") (st := s__law_numbers) rfl
  obtain ⟨⟨oc, od, kV, doc, pm, an, cdv, ct, osl, e, lk, cd⟩, kp⟩ := F
  subst e
  exact ⟨_, _, ⟨⟨oc, od, kV, doc, pm, an, cdv, ct, osl, rfl, lk, cd⟩, kp⟩, He.glo_ok X G (c.t.fact 38 (f := .glo "_law_numbers") rfl), .all (fun us hl => match us, hl with | [_, _], _ => rfl), (fun q hq => nomatch hq)⟩
theorem f__law_read {K : PySem.W.Frag} {h : Heap} {mg : Str → Option Value} (X : K.In h) (G : h.Ns mainGlobals mg) (c : SaysY fa fn tf exs h K) : FT K mg "_law_read" s__law_read ["text"] := by
  obtain ⟨fd, F⟩ := says_fun c.t 18 (x := "_law_read") (st := s__law_read) rfl
  obtain ⟨⟨oc, od, kV, doc, pm, an, cdv, ct, osl, e, lk, cd⟩, kp⟩ := F
  subst e
  exact ⟨_, _, ⟨⟨oc, od, kV, doc, pm, an, cdv, ct, osl, rfl, lk, cd⟩, kp⟩, He.glo_ok X G (c.t.fact 39 (f := .glo "_law_read") rfl), .all (fun us hl => match us, hl with | [_], _ => rfl), (fun q hq => nomatch hq)⟩
theorem f__law_told {K : PySem.W.Frag} {h : Heap} {mg : Str → Option Value} (X : K.In h) (G : h.Ns mainGlobals mg) (c : SaysY fa fn tf exs h K) : FT K mg "_law_told" s__law_told ["text"] := by
  obtain ⟨fd, F⟩ := says_fun c.t 19 (x := "_law_told") (st := s__law_told) rfl
  obtain ⟨⟨oc, od, kV, doc, pm, an, cdv, ct, osl, e, lk, cd⟩, kp⟩ := F
  subst e
  exact ⟨_, _, ⟨⟨oc, od, kV, doc, pm, an, cdv, ct, osl, rfl, lk, cd⟩, kp⟩, He.glo_ok X G (c.t.fact 40 (f := .glo "_law_told") rfl), .all (fun us hl => match us, hl with | [_], _ => rfl), (fun q hq => nomatch hq)⟩
theorem f__law_changed {K : PySem.W.Frag} {h : Heap} {mg : Str → Option Value} (X : K.In h) (G : h.Ns mainGlobals mg) (c : SaysY fa fn tf exs h K) : FT K mg "_law_changed" s__law_changed ["dice", "text"] := by
  obtain ⟨fd, F⟩ := says_fun c.t 20 (x := "_law_changed") (st := s__law_changed) rfl
  obtain ⟨⟨oc, od, kV, doc, pm, an, cdv, ct, osl, e, lk, cd⟩, kp⟩ := F
  subst e
  exact ⟨_, _, ⟨⟨oc, od, kV, doc, pm, an, cdv, ct, osl, rfl, lk, cd⟩, kp⟩, He.glo_ok X G (c.t.fact 41 (f := .glo "_law_changed") rfl), .all (fun us hl => match us, hl with | [_, _], _ => rfl), (fun q hq => nomatch hq)⟩
theorem txt {w : World} {K : PySem.W.Frag} {h : Heap} {mg : Str → Option Value} {base : Heap} (X : K.In h) (G : h.Ns mainGlobals mg) (c : SaysY fa fn tf exs h K) (TB : ∀ p ∈ tf, LamX.TabB base mg (He.cT K p).1 (He.cT K p).2) : Txt R.prog w K mg base (TL K) (CB K) where
  b_enumerate := He.free_ok X G (c.t.fact 0 (f := .free "enumerate") rfl)
  b_tuple := He.free_ok X G (c.t.fact 1 (f := .free "tuple") rfl)
  b_range := He.free_ok X G (c.t.fact 2 (f := .free "range") rfl)
  b_isinstance := He.free_ok X G (c.t.fact 3 (f := .free "isinstance") rfl)
  b_int := He.free_ok X G (c.t.fact 4 (f := .free "int") rfl)
  b_all := He.free_ok X G (c.t.fact 5 (f := .free "all") rfl)
  b_sum := He.free_ok X G (c.t.fact 6 (f := .free "sum") rfl)
  b_max := He.free_ok X G (c.t.fact 7 (f := .free "max") rfl)
  b_zip := He.free_ok X G (c.t.fact 8 (f := .free "zip") rfl)
  b_bool := He.free_ok X G (c.t.fact 9 (f := .free "bool") rfl)
  b_len := He.free_ok X G (c.t.fact 10 (f := .free "len") rfl)
  b_str := He.free_ok X G (c.t.fact 11 (f := .free "str") rfl)
  b_abs := He.free_ok X G (c.t.fact 12 (f := .free "abs") rfl)
  b_min := He.free_ok X G (c.t.fact 13 (f := .free "min") rfl)
  b_super := He.free_ok X G (c.t.fact 14 (f := .free "super") rfl)
  c_MOST_DAYS := He.int_ok X G (c.t.fact 15 (f := .int "MOST_DAYS" 12) rfl)
  c_MOST_FIRES := He.int_ok X G (c.t.fact 16 (f := .int "MOST_FIRES" 9) rfl)
  c_MOST_THINGS := He.int_ok X G (c.t.fact 17 (f := .int "MOST_THINGS" 6) rfl)
  c_MOST_NEED := He.int_ok X G (c.t.fact 18 (f := .int "MOST_NEED" 120) rfl)
  c_MOST_TEXT := He.int_ok X G (c.t.fact 19 (f := .int "MOST_TEXT" 2000) rfl)
  c_DIGITS := He.str_ok X G (c.t.fact 20 (f := .str "DIGITS" "0123456789") rfl)
  er := ert_of X G (c.exs ex_BadArgument (.head _)) rfl rfl (He.free_ok X G (c.t.fact 14 (f := .free "super") rfl)) rfl ⟨_, _, _, _, _, _, _, _, _, _, _, _, rfl, rfl, ⟨_, fun env => rfl⟩⟩ (fun _ _ _ _ _ _ _ us hl => match us, hl with | [_, _], _ => rfl) (by decide) (by decide) (by decide) (by decide) (by decide)
  bt := ert_of X G (c.exs ex_BadText (.tail _ (.head _))) rfl rfl (He.free_ok X G (c.t.fact 14 (f := .free "super") rfl)) rfl ⟨_, _, _, _, _, _, _, _, _, _, _, _, rfl, rfl, ⟨_, fun env => rfl⟩⟩ (fun _ _ _ _ _ _ _ us hl => match us, hl with | [_, _], _ => rfl) (by decide) (by decide) (by decide) (by decide) (by decide)
  xt := (fun s => ⟨s.all.2.2.2.2.2.2.2.2.2.2.2.2.2.2.1, exs_xf s, s.all.2.2.2.2.2.2.2.2.2.2.2.1⟩) (c.exs ex_BadText (.tail _ (.head _)))
  f_demand := f_demand X G c
  f_is_in := f_is_in X G c
  f_is_tuple := f_is_tuple X G c
  f_are_in := f_are_in X G c
  f_is_thing := f_is_thing X G c
  f_demand_house := f_demand_house X G c
  f_write_house := f_write_house X G c
  f_number_of := f_number_of X G c
  f_numbers_of := f_numbers_of X G c
  f_read_house := f_read_house X G c
  f_draw := f_draw X G c
  f__law_dice := f__law_dice X G c
  f__law_roll := f__law_roll X G c
  f__law_pick := f__law_pick X G c
  f__law_refused := f__law_refused X G c
  f__law_house := f__law_house X G c
  f__law_text := f__law_text X G c
  f__law_numbers := f__law_numbers X G c
  f__law_read := f__law_read X G c
  f__law_told := f__law_told X G c
  f__law_changed := f__law_changed X G c
  l_law := ⟨TB _ (.head _), .head _, tab_one (lm := lm) c.nd (p := ("law", none)) (.head _)⟩
theorem rft {w : World} {K : PySem.W.Frag} {h : Heap} {mg : Str → Option Value} {base : Heap} (X : K.In h) (G : h.Ns mainGlobals mg) (c : SaysY fa fn tf exs h K) : RfT R.prog w K mg base "_law_refused" (CB K) "name" := by
  have s := c.exs ex_BadArgument (.head _)
  obtain ⟨f, fd, F, hm, hb, _⟩ := (f__law_refused X G c).ex
  refine ⟨⟨f, fd, s__law_refused, "call", "e", "BadArgument", _, _, _, _, _, _, _, _, _, _, _, _, F, hm, hb, sc__law_refused, ?_, by decide, by decide, rfl, by decide +kernel, exs_g X G s, by decide, by decide +kernel, by decide, by decide, fun X' => rfl, fun env => rfl⟩, s.all.2.2.2.2.2.2.2.2.2.2.2.2.2.2.1, exs_xf s, s.all.2.2.2.2.2.2.2.2.2.2.2.1⟩
  exact .inl (by decide +kernel)
end Hd
end KX
open PySem PySem.W PySem.Calls PyProof.Rows Dn
set_option maxHeartbeats 0 in
theorem PySem.Challenge.cw_smokehung_k14_whole_days_and_things_as_t_holds : PySem.Challenge.rw_smokehung_k14_whole_days_and_things_as_t.Holds := by
  w_on; o_law
  refine HandSHeadRun.head_any (r := OpenLaw.row PySem.Challenge.rw_smokehung_k14_whole_days_and_things_as_t) (q := view (OpenLaw.row PySem.Challenge.rw_smokehung_k14_whole_days_and_things_as_t).prog [35]) (H := KX.Hd.hk) (ob := KX.Hd.ob) (M := 4000) (loose := KX.Hd.names) (d := HandSHeadRun.topDef (OpenLaw.row PySem.Challenge.rw_smokehung_k14_whole_days_and_things_as_t).prog 35) (kwd := []) KX.Hd.ob_eq
    (by kernel_rfl) (fun s => by kernel_rfl) KX.Hd.run (by kernel_rfl) (by kernel_rfl) (by kernel_rfl) (by rfl) (by first | assumption | decide +kernel) (by decide +kernel) ⟨rfl, rfl, rfl, rfl, rfl, by decide +kernel⟩ ?hw ?hc
  case hw => w_witness2
  case hc =>
    refine LamX.walk_ofTsE (l := PySem.Challenge.rw_smokehung_k14_whole_days_and_things_as_t) (n := 63) (k := KX.lawK) (x := "script") (CX := fun w => L2.CX (PySem.Challenge.rw_smokehung_k14_whole_days_and_things_as_t).prog w) rfl (by decide) (by kernel_rfl) ⟨rfl, by decide, by decide⟩ ?F (fun _ _ _ _ _ z => cx_false z)
    intro w mg fa h Y G hmg0
    obtain ⟨K, HX, c⟩ := Y
    have hmg : mg ("law" : PySem.Str) = some (.ref fa) := by
      have e : (HandSHeadRun.topDef (OpenLaw.row PySem.Challenge.rw_smokehung_k14_whole_days_and_things_as_t).prog 35).name = ("law" : PySem.Str) := by kernel_rfl
      rw [← e]
      exact hmg0
    obtain ⟨fd, F⟩ := says_fun c.t 21 (x := "law") (st := KX.s_law) rfl
    obtain ⟨⟨oc, od, kV, doc, pm, an, cdv, ct, osl, e, lk, cd⟩, kp⟩ := F
    subst e
    exact ⟨K, HX, law_atN (lm := KX.Hd.lm) (C := KX.Hd.CB K) (fl := "name") (S := KX.S_law) c HX hmg (He.glo_ok HX G (c.t.fact 42 (f := .glo "law") rfl)) (fun s u => .of_eq rfl) (fun ns h => ⟨ns, h, rfl, rfl⟩) fun base X1 G1 TB => KX.ok_law (KX.Hd.txt HX G c TB) (KX.Hd.rft HX G c) ⟨⟨oc, od, kV, doc, pm, an, cdv, ct, osl, rfl, lk, cd⟩, kp⟩⟩

