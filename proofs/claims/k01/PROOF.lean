import PyProof.Rows.All
import Wide.All
import OpenK.AllK
import Wide.FinOn
import KE.KExcSuper
import HandS.ForMost
import HandS.ForExc
import HandS.ExcInit
import HandS.Defaults
import HandS.Replace
import HandS.ReplaceDef
import HandS.StrMore
import HandS.ReplaceList
import HandS.ExcField
import KE.IntTextLaws
import HandS.Walk
import HandS.ReplaceLit
import HandS.Style
import HandS.Codes
import HandS.IsInst
import HandS.Wide
import KE.KStateDown
import HandS.Words
import HandS.WordsExc
import HandS.Head0
import HandS.Head1
import HandS.Head2
import HandS.HeadEnd
import HandS.HeadHook1
import HandS.HeadHook2
import PySem.Challenge.RW_imagetalk_k01_words_put_together
set_option Elab.async false
set_option linter.all false
set_option maxRecDepth 100000
set_option maxHeartbeats 0
/-! own exception classes below ValueError whose __init__ begins with super().__init__(text) -/
namespace Xs
open PySem PySem.Spec PyProof.Rows L2

theorem zip_rev_lookup : ∀ {ps : List Str} {us : List Value} {i : Nat} {x : Str} {u : Value}, ps.Nodup → ps[i]? = some x → us[i]? = some u →
    ((ps.zip us).reverse).lookup x = some u
  | [], _, i, x, _, _, e, _ => by simp at e
  | _ :: _, [], i, _, _, _, _, e => by simp at e
  | p :: ps, w :: us, 0, x, u, nd, e1, e2 => by
    simp at e1 e2
    subst e1 e2
    rw [List.zip_cons_cons, List.reverse_cons, List.lookup_append]
    have hn : ((ps.zip us).reverse).lookup p = none := by
      rw [List.lookup_eq_none_iff]
      intro q hq
      have hm : q.1 ∈ ps := (List.of_mem_zip (List.mem_reverse.mp hq)).1
      have : p ≠ q.1 := fun z => (List.nodup_cons.mp nd).1 (z ▸ hm)
      simpa using this
    rw [hn]
    simp
  | p :: ps, w :: us, i + 1, x, u, nd, e1, e2 => by
    rw [List.zip_cons_cons, List.reverse_cons, List.lookup_append, zip_rev_lookup (i := i) (List.nodup_cons.mp nd).2 (by simpa using e1) (by simpa using e2)]
    rfl

/-- what the written part tells of the class C, the cell of its __init__ and that one's code -/
structure SupC (P : Program) (K : PySem.W.Frag) (mg : Str → Option Value) (C cc cda : Addr) : Prop where
  cell : ∃ cl cld csl, K.lookup cc = some ⟨cl, cld, .cell (some (.ref C)), csl⟩
  code : ∃ ccl cdd vs ccs file tf, K.lookup cda = some ⟨ccl, cdd, .fields vs, ccs⟩ ∧ vs[2]? = some (.str file tf) ∧ ((P.main.file : Str) == file) = true
  mro : PySem.W.mroIn K C (.ref C) = some true
  sup : mg "super" = none
  opq : PySem.W.nsIn K cStatics "thirdparty.any" = some none
  ini : PySem.W.ks_superIn K C C "__init__" = some (some (.builtin "ValueError.__init__"))
  ve : PySem.W.subIn K (.ref C) (.type "ValueError") = some true
  top : (P.main.scope.names.lookup ("super" : Str)).isSome = false

/-- what is asked of the __init__'s scope -/
structure SupSc (ps : List Str) (sc : Scope) : Prop where
  kind : sc.kind = .function
  co : sc.isCoroutine = false
  gen : sc.isGenerator = false
  nd : ps.Nodup
  par : ∀ x ∈ ps, sc.names.lookup x = some .local
  nocell : ∀ y ∈ sc.names, y.2 ≠ .cell
  free : ∀ y ∈ sc.names, y.2 = .free → y.1 = ("__class__" : Str)
  sup : sc.names.lookup ("super" : Str) = some .globalImplicit
  cls : sc.names.lookup ("__class__" : Str) = some .free

/-- the context of the body -/
def cxS (P : Program) (w : World) (K : PySem.W.Frag) (mg : Str → Option Value) (base : Heap) (N : List Str) (qual : Str) (scope : Scope) (f cc : Addr) (cd : Value) (A : Around) (outer : List Env) (s : Shared) (H : Hp) : Cx where
  prog := P
  w := w
  K := K
  mg := mg
  base := base
  A := A.deeper (PySem.W.envX qual scope s.heap.objs.size f cd [("__class__", cc)])
  N := N
  s_0 := s
  H_0 := H
  env := PySem.W.envX qual scope s.heap.objs.size f cd [("__class__", cc)]
  outer := outer
  stack := PySem.W.envX qual scope s.heap.objs.size f cd [("__class__", cc)] :: outer
  ex := []
  calm := true
  fn := fun _ => false
  pn := []
  xe := fun _ _ => False

theorem one_lookup {k x : Str} {a c : Addr} (h : [(k, a)].lookup x = some c) : x = k ∧ c = a := by
  simp only [List.lookup] at h
  split at h
  · rename_i e
    exact ⟨by simpa using e, (Option.some.inj h).symm⟩
  · cases h

section
variable {P : Program} {w : World} {K : PySem.W.Frag} {mg : Str → Option Value} {base : Heap} {C cc cda f : Addr} {ps : List Str} {qual : Str} {scope : Scope} {A : Around} {outer : List Env} {s : Shared} {H : Hp} {vs : List V} {us : List Value}
theorem inv_sup {h1 : Heap} {tk : Nat} (Sc : SupSc ps scope) (S : SupC P K mg C cc cda) (hd : A.handled = none) (e0 : Env0 P w K mg base A outer s H) (hl : vs.length = ps.length) (r : Vals vs us)
    (hns : h1.Ns s.heap.objs.size (fun x => (ps.zip us).reverse.lookup x)) (hk : ∀ b o, s.heap.get? b = some o → h1.get? b = some o) :
    Inv (cxS P w K mg base ps qual scope f cc (.ref cda) A outer s H) [] (vs.map some) H { s with heap := h1, toks := tk } := by
  obtain ⟨cl, cld, csl, hcell⟩ := S.cell
  have cb : base.get? cc = some _ := e0.mod.kin _ _ hcell
  have cs : s.heap.get? cc = some _ ∧ H cc = none := e0.bs _ _ cb
  have no : ∀ b : Addr, b ∉ (cxS P w K mg base ps qual scope f cc (.ref cda) A outer s H).ex := fun b z => absurd (show b ∈ ([] : List Addr) from z) (by simp)
  have ok : (cxS P w K mg base ps qual scope f cc (.ref cda) A outer s H).Ok :=
    { mod := e0.mod, kind := Sc.kind, glob := rfl, blt := rfl, above := Nat.le_refl _
      inj := fun x y c h1 h2 => (one_lookup h1).1.trans (one_lookup h2).1.symm
      has := fun x hx => by
        have hx' : scope.names.lookup x = some .cell ∨ scope.names.lookup x = some .free := hx
        rcases hx' with z | z
        · exact absurd rfl (Sc.nocell _ (PySem.mem_of_lookup z))
        · have e := Sc.free _ (PySem.mem_of_lookup z) rfl
          have e' : x = ("__class__" : Str) := e
          subst e'
          exact ⟨cc, rfl⟩
      cab := fun x c z => by cases z
      hd := fun _ => hd, frames := Around.frames_deeper e0.frames, stk := .inr ⟨rfl, rfl⟩, exf := fun b z => absurd z (no b), bs := e0.bs, bsz := e0.bsz
      noex := fun b _ _ => no b, exfs := fun b z => absurd z (no b), funs := e0.funs, frf := e0.frf }
  refine { ok := ok, os := rfl, bare := e0.bare, base := Un.kept hk, loc := ⟨_, hns, fun i x v e1 e2 e3 => ?_⟩, cell := fun x c e => ?_, free := e0.hok.fresh (Nat.le_refl _), freeC := fun x c e => ?_, pin := fun p hp => absurd (show p ∈ ([] : List (Addr × Obj)) from hp) (by simp), hok := e0.hok.kept hk, len := by rw [List.length_map]; exact hl }
  · have ha : vs[i]? = some v := by
      rw [List.getElem?_map] at e2
      cases q : vs[i]? with
      | none => rw [q] at e2; cases e2
      | some y => rw [q] at e2; cases e2; rfl
    obtain ⟨u, hu, rv⟩ := r.get ha
    have e1' : ps[i]? = some x := e1
    exact ⟨u, rv, .inl ⟨Sc.par x (List.mem_of_getElem? e1'), zip_rev_lookup Sc.nd e1' hu⟩⟩
  · obtain ⟨_, rfl⟩ := one_lookup e
    exact ⟨_, _, hk _ _ cs.1, rfl⟩
  · obtain ⟨_, rfl⟩ := one_lookup e
    exact cs.2
end
end Xs
namespace Xs
open PySem PySem.Spec PyProof.Rows L2
section
variable {P : Program} {w : World} {K : PySem.W.Frag} {mg : Str → Option Value} {base : Heap} {C cc cda f : Addr} {ps : List Str} {qual : Str} {scope : Scope} {A : Around} {outer : List Env} {s s1 : Shared} {H : Hp} {σ : L2.St} {a : Addr}

/-- the bound ValueError.__init__ is called -/
theorem call_mw {X : Cx} {pins : List (Addr × Obj)} {B : Around} {E : Value → Shared → Prop} {u : Addr} {us : List Value} {Q : Value → Shared → Prop} (T : OexC X.K C) (I : Inv X pins σ H s1) (e : H a = some (exo a C none)) (hu : s1.heap.get? u = some (PySem.W.kxs_mw "ValueError.__init__" a))
    (hz : us.length ≤ sizeLine) (q : ∀ s2, Inv X pins σ H s2 → Q .none s2) : wpAny (model X.prog X.w) B (call (.ref u) us) Q E s1 := by
  obtain ⟨nm, qn, N, bs, bm, sn, sub, ab, col, dd, k0, k1, k2, k3, k5, hC, hbm⟩ := T.cls
  obtain ⟨t1, ho⟩ := exo_at I.hok e
  obtain ⟨hp, g, d, t, os⟩ := s1
  refine wpAny_call (codeAny_of_tree ?_)
  show wpAny _ B.in1 (callAny (.ref u) ⟨us, []⟩) _ _ _
  simp only [callAny]
  refine wpAny_bind (wpAny_load hu ?_)
  simp only []
  refine PySem.W.KFB.if_so (by decide) ?_
  refine wpAny_bind (PySem.W.check_bound_init PySem.F.excBase_ValueError.toExcCallFacts (I.kIn _ _ hC) ho rfl ?_)
  refine wpAny_bind (wpAny_pure (wpAny_pure ?_))
  refine ⟨plainId_quiet PySem.F.excBase_ValueError.init.plain _, codeAny_builtin PySem.F.excBase_ValueError.initEntry ?_⟩
  refine PySem.W.exc_init_tree (cls := .ref C) (t0 := t1) (dv := none) (c2 := .none) (c3 := .none) (b4 := .bool false) ho hz fun h' kp hx _ => ?_
  have J := I.write (t' := t) (x := a) (e := a) (o := exo a C none) (by rw [e]; exact True.intro) (.inl rfl) kp ⟨_, hx⟩ (exo_ok hx)
  have eu : upd H a (exo a C none) = H := by
    funext b
    by_cases hb : b = a
    · rw [hb, upd_same, e]
    · rw [upd_ne hb]
  rw [eu] at J
  exact q _ J

theorem sup_init {body : List Stmt} {p0 p1 p2 p3 p4 p5 : Pos} {m : Str} {j : Nat} {fd : FuncData} {ar : Arg} {oc : Value} {od : Option Addr} {osl : Array (Option Value)} (Sc : SupSc ps scope) (S : SupC P K mg C cc cda) (T : OexC K C)
    (lk : K.lookup f = some ⟨oc, od, .func fd, osl⟩) (hp : (fd.params.posonlyargs ++ fd.params.args).head? = some ar) (hps : ps[0]? = some ar.arg)
    (I : Inv (cxS P w K mg base ps qual scope f cc (.ref cda) A outer s H) [] σ H s1) (h0 : σ[0]? = some (some (.ref a))) (e : H a = some (exo a C none)) {pl : Sem Bool}
    (hev : eval (.Call (.Attribute (.Call (.Name "super" p0) [] [] p1) "__init__" p2) [.Constant (.str m) j p3] [] p4) (PySem.W.envX qual scope s.heap.objs.size f (.ref cda) [("__class__", cc)]) = (do
      let ov ← attributeBase (.Call (.Name "super" p0) [] [] p1) "__init__" (PySem.W.envX qual scope s.heap.objs.size f (.ref cda) [("__class__", cc)]) (eval (.Call (.Name "super" p0) [] [] p1) (PySem.W.envX qual scope s.heap.objs.size f (.ref cda) [("__class__", cc)]))
      standAt p2.atName
      let (fx, first) ← holding [ov] (getMethod ov "__init__" pl)
      callWith p4 fx first (backTo p4 (starEach [.Constant (.str m) j p3] (PySem.W.envX qual scope s.heap.objs.size f (.ref cda) [("__class__", cc)]))) []))
    (hi : interactive (PySem.W.envX qual scope s.heap.objs.size f (.ref cda) [("__class__", cc)]) = false)
    (hs : swapsWith (.Call (.Attribute (.Call (.Name "super" p0) [] [] p1) "__init__" p2) [.Constant (.str m) j p3] [] p4) none p5.line (PySem.W.envX qual scope s.heap.objs.size f (.ref cda) [("__class__", cc)]) = pure false) :
    PySem.wpAt (model P w) (cxS P w K mg base ps qual scope f cc (.ref cda) A outer s H).A (.func body (cxS P w K mg base ps qual scope f cc (.ref cda) A outer s H).env)
      (exec (.Expr (.Call (.Attribute (.Call (.Name "super" p0) [] [] p1) "__init__" p2) [.Constant (.str m) j p3] [] p4) p5) (cxS P w K mg base ps qual scope f cc (.ref cda) A outer s H).env)
      (fun fl s2 => fl = .next ∧ Inv (cxS P w K mg base ps qual scope f cc (.ref cda) A outer s H) [] σ H s2) (fun _ _ => False) s1 := by
  have X0 : K.In s1.heap := I.kIn
  obtain ⟨cl, cld, csl, hcell⟩ := S.cell
  obtain ⟨ccl, cdd, vsc, ccs, file, tf, hcode, hvs, hfile⟩ := S.code
  obtain ⟨nm, qn, N, bs, bm, sn, sub, ab, col, dd, k0, k1, k2, k3, k5, hC, hbm⟩ := T.cls
  obtain ⟨t1, ho⟩ := exo_at I.hok e
  obtain ⟨m1, hn, hl⟩ := id I.loc
  have ex0 : ps[0]? = some ar.arg := hps
  obtain ⟨u0, ru, lu⟩ := hl 0 ar.arg (.ref a) ex0 h0 (.inl (Sc.par _ (List.mem_of_getElem? hps)))
  obtain rfl : u0 = Value.ref a := ru
  have hv : m1 ar.arg = some (.ref a) := by
    rcases lu with ⟨_, z⟩ | ⟨z, _⟩
    · exact z
    · have q : scope.names.lookup ar.arg = some .local := Sc.par _ (List.mem_of_getElem? hps)
      have z' : scope.names.lookup ar.arg = some .cell ∨ scope.names.lookup ar.arg = some .free := z
      rw [q] at z'
      rcases z' with z' | z' <;> cases z'
  obtain ⟨mb, b1, b2⟩ := I.mod.blt
  have hnoc : ∀ c, ({ cls := .ref C, dict := none, data := .fields #[.ref t1, .none, .none, .none, .bool false, .none] } : Obj).data ≠ .cls c := fun c z => by cases z
  have hcl : PySem.W.clsIn K C = some { name := nm, bases := bs, mro := .ref C :: bm, ns := N, qualname := qn, hasDict := true, slotNames := sn, subclasses := sub, abstract := ab, collection := col, hasDel := false } := by unfold PySem.W.clsIn; rw [hC] <;> rfl
  have IA : PySem.W.InstAt s1.heap a { cls := .ref C, dict := none, data := .fields #[.ref t1, .none, .none, .none, .bool false, .none] } C none := ⟨ho, rfl, rfl, trivial⟩
  obtain ⟨hp1, g, d, t, os⟩ := s1
  refine PySem.ks_wpAt_Expr_any (PySem.ks_wpAt_MethodCall ?_ hev) hi hs
  refine PySem.ks_wpAt_super_base (env := (cxS P w K mg base ps qual scope f cc (.ref cda) A outer s H).env) Sc.sup Sc.cls (by decide) rfl (X0 _ _ lk) rfl hp rfl (X0 _ _ hcode) rfl hvs hfile S.top ?_
  refine PySem.W.ks_loadName_global Sc.kind Sc.sup (Calls.loadGlobal_builtin (env := (cxS P w K mg base ps qual scope f cc (.ref cda) A outer s H).env) (I.mod.glob.keeps I.bk) S.sup (b1.keeps I.bk) ((b2 _ (by decide)).trans (show bootBuiltins ("super" : Str) = some (.type "super") from by first | rfl | kernel_rfl)) ⟨rfl, ?_⟩)
  refine wpAny_loadName_free Sc.kind Sc.cls rfl ⟨_, X0 _ _ hcell, rfl⟩ ?_
  refine wpAny_loadName_local Sc.kind (Sc.par _ (List.mem_of_getElem? hps)) hn hv ?_
  have hCo := X0 _ _ hC
  refine PySem.ks_wpAny_isType_cls hCo rfl ⟨rfl, ?_⟩
  refine PySem.ks_wpAny_call_super hCo rfl ho rfl hnoc (PySem.W.looks_mroIn X0 S.mro) (fun h' e1 kp => ?_)
  have I1 : Inv (cxS P w K mg base ps qual scope f cc (.ref cda) A outer s H) [] σ H ⟨h', g, d, t, os⟩ := I.kept (t' := t) kp
  have ho1 := kp _ _ ho
  have IA1 : PySem.W.InstAt h' a { cls := .ref C, dict := none, data := .fields #[.ref t1, .none, .none, .none, .bool false, .none] } C none := ⟨ho1, rfl, rfl, trivial⟩
  have hsi := S.ini
  unfold PySem.W.ks_superIn at hsi
  rw [hcl] at hsi
  refine PySem.W.kxs_getMethod PySem.W.kxs_ValueError e1 (PySem.W.looks_opaque I1.kIn S.opq) (l₀ := .ref C :: bm) ?_ rfl I1.kIn hsi (IA1.type.andThen (PySem.W.looks_subIn I1.kIn S.ve)) (PySem.W.ks_ne I1.kIn IA1 hcl) (by decide) ?_
  · exact fun B Q E s k q => wpAny_bind ((PySem.W.looks_clsIn I1.kIn hcl) B _ E s k (wpAny_pure q))
  have I2 : Inv (cxS P w K mg base ps qual scope f cc (.ref cda) A outer s H) [] σ H ⟨h'.push (PySem.W.kxs_mw "ValueError.__init__" a), g, d, t + 1, os⟩ := I1.kept (t' := t + 1) fun b u z => Heap.get?_push_of_some _ z
  have hmw : (h'.push (PySem.W.kxs_mw "ValueError.__init__" a)).get? h'.objs.size = some (PySem.W.kxs_mw "ValueError.__init__" a) := Heap.get?_push_at rfl rfl
  have fr : H h'.objs.size = none := I1.hok.fresh (Nat.le_refl _)
  have I3 : Inv (cxS P w K mg base ps qual scope f cc (.ref cda) A outer s H) [(h'.objs.size, PySem.W.kxs_mw "ValueError.__init__" a)] σ H ⟨h'.push (PySem.W.kxs_mw "ValueError.__init__" a), g, d, t + 1, os⟩ :=
    I2.pins_of fun p hp => by
      rw [List.mem_singleton] at hp
      subst hp
      exact ⟨hmw, fr, (Nat.ne_of_lt I1.lt).symm, I1.nofs (Nat.le_refl _), fun v z => by cases z⟩
  refine PySem.W.kxs_callWith (i := "ValueError.__init__") (x := a) rfl ?_
  refine PySem.Calls.evalArgs_plain ?_
  have pa : PA (cxS P w K mg base ps qual scope f cc (.ref cda) A outer s H) [.Constant (.str m) j p3] (tCons (tC (.str m)) tNil) := pa_cons pe_str pa_nil
  refine wpAny_mono (pa.run p4 _ _ σ H (fun vs H1 => vs = [V.str m] ∧ H = H1) I3 ⟨rfl, rfl⟩) (fun us s2 hh => ?_) (fun _ _ z => z)
  obtain ⟨vs, H1, J, rv, ev, eH⟩ := hh
  subst eH
  subst ev
  have hu := (J.pin _ (List.mem_append_right _ List.mem_cons_self)).1
  refine ⟨hu, ?_⟩
  refine call_mw (X := cxS P w K mg base ps qual scope f cc (.ref cda) A outer s H) T (J.pins_of (pins' := []) fun p hp => absurd hp (by simp)) e hu (by show us.length ≤ sizeLine; rw [← Paired.length rv]; show 1 ≤ sizeLine; decide) fun s3 J3 => ⟨rfl, J3⟩
/-- THE RULE: such an __init__ by the rest of its body -/
theorem fn_super {k : Nat} {sp : Sp} {p0 p1 p2 p3 p4 p5 : Pos} {m name : Str} {j : Nat} {rest : List Stmt} {params : Arguments} {ar : Arg} {dV kV doc pm ct oc : Value} {an od : Option Addr} {osl : Array (Option Value)} {pl : Addr → Sem Bool}
    (Sc : SupSc ps scope) (S : SupC P K mg C cc cda) (T : OexC K C)
    (lk : K.lookup f = some ⟨oc, od, .func (PySem.W.fnX name qual params (.Expr (.Call (.Attribute (.Call (.Name "super" p0) [] [] p1) "__init__" p2) [.Constant (.str m) j p3] [] p4) p5 :: rest) scope [("__class__", cc)] dV kV doc pm an (.ref cda) ct), osl⟩)
    (hcd : PySem.W.codeIn K (.ref cda) qual = true) (hp : (params.posonlyargs ++ params.args).head? = some ar) (hps : ps[0]? = some ar.arg)
    (hev : ∀ L, eval (.Call (.Attribute (.Call (.Name "super" p0) [] [] p1) "__init__" p2) [.Constant (.str m) j p3] [] p4) (PySem.W.envX qual scope L f (.ref cda) [("__class__", cc)]) = (do
      let ov ← attributeBase (.Call (.Name "super" p0) [] [] p1) "__init__" (PySem.W.envX qual scope L f (.ref cda) [("__class__", cc)]) (eval (.Call (.Name "super" p0) [] [] p1) (PySem.W.envX qual scope L f (.ref cda) [("__class__", cc)]))
      standAt p2.atName
      let (fx, first) ← holding [ov] (getMethod ov "__init__" (pl L))
      callWith p4 fx first (backTo p4 (starEach [.Constant (.str m) j p3] (PySem.W.envX qual scope L f (.ref cda) [("__class__", cc)]))) []))
    (hi : ∀ L, interactive (PySem.W.envX qual scope L f (.ref cda) [("__class__", cc)]) = false)
    (hs : ∀ L, swapsWith (.Call (.Attribute (.Call (.Name "super" p0) [] [] p1) "__init__" p2) [.Constant (.str m) j p3] [] p4) none p5.line (PySem.W.envX qual scope L f (.ref cda) [("__class__", cc)]) = pure false)
    (len : ∀ vs H Q E, sp vs H Q E → vs.length = ps.length)
    (hbody : ∀ (A : Around) (outer : List Env) (s : Shared) (H : Hp) (vs : List V) (Q : VK) (E : XK), Room k (A.deeper (PySem.W.envX qual scope s.heap.objs.size f (.ref cda) [("__class__", cc)])) → sp vs H Q E →
      ∃ (a : Addr) (t : TS), vs[0]? = some (.ref a) ∧ H a = some (exo a C none) ∧ PSs (cxS P w K mg base ps qual scope f cc (.ref cda) A outer s H) rest t ∧ t { nx := fun _ H' => Q .non H', rt := Q } (vs.map some) H) :
    FnOk P w K mg base CX0 (k + 1) f (PySem.W.fnX name qual params (.Expr (.Call (.Attribute (.Call (.Name "super" p0) [] [] p1) "__init__" p2) [.Constant (.str m) j p3] [] p4) p5 :: rest) scope [("__class__", cc)] dV kV doc pm an (.ref cda) ct) ps sp := by
  refine ⟨len, fun A outer s H args us vs Q E hr e0 hb r hsp => ?_⟩
  have hl := len _ _ _ _ hsp
  have KX : K.In s.heap := e0.mod.kin.keeps fun b o e => (e0.bs b o e).1
  have lim : s.heap.NoLimit := e0.mod.nolimit.keeps fun b o e => (e0.bs b o e).1
  obtain ⟨a, t, ha0, hea, ht, hq⟩ := hbody A outer s H vs Q E (hr.deeper _) hsp
  refine PySem.ks_codeAny_call_defAt (fd := PySem.W.fnX name qual params (.Expr (.Call (.Attribute (.Call (.Name "super" p0) [] [] p1) "__init__" p2) [.Constant (.str m) j p3] [] p4) p5 :: rest) scope [("__class__", cc)] dV kV doc pm an (.ref cda) ct)
    hr.depth (KX _ _ lk) rfl lim (PySem.W.codeRec_of KX hcd) rfl hb Sc.nocell (fun y hy => Sc.par _ (List.of_mem_zip hy).1) (fun h1 hns hk => ?_) Sc.co Sc.gen Sc.kind
  have I := inv_sup (w := w) (base := base) (f := f) (qual := qual) (tk := s.toks + (ps.zip us).length) Sc S hr.hd e0 hl r hns hk
  have h0 : (vs.map some)[0]? = some (some (V.ref a)) := by rw [List.getElem?_map, ha0]; rfl
  refine PySem.ks_wpAt_execs_cons (PySem.ks_wpAt_mono (sup_init (w := w) Sc S T lk hp hps I h0 hea (hev _) (hi _) (hs _)) (fun fl s2 z => ?_) fun e s2 z => z.elim)
  obtain ⟨rfl, J⟩ := z
  refine PySem.wpAt_of_wpAny (wpAny_mono (ht.run [] s2 (vs.map some) H _ J hq) (fun fl s3 hs3 => ?_) fun e s3 z => False.elim z)
  have fin : ∀ {τ : L2.St} {H' : Hp} {v : V} {u : Value}, Inv (cxS P w K mg base ps qual scope f cc (.ref cda) A outer s H) [] τ H' s3 → RelV v u → Q v H' → CE outer P w H s Q u s3 :=
    fun {τ H' v u} J rv q => ⟨v, H', J.os, J.bare, J.base, J.hok, rv, q⟩
  cases fl with
  | ret u =>
    obtain ⟨v, τ, H', J3, rv, q⟩ := hs3
    exact fin J3 rv q
  | next =>
    obtain ⟨τ, H', J3, q⟩ := hs3
    exact fin J3 (v := .non) rfl q
  | brk =>
    obtain ⟨τ, H', J3, q⟩ := hs3
    exact q.elim
  | cont =>
    obtain ⟨τ, H', J3, q⟩ := hs3
    exact q.elim
end
end Xs
namespace Cm
open PySem PySem.Spec PyProof.Rows L2
/-- the def of the module's name x keeps its promise at level k -/
def Ok (P : Program) (w : World) (K : PySem.W.Frag) (mg : Str → Option Value) (base : Heap) (k : Nat) (x : Str) (ps : List Str) (sp : Sp) : Prop :=
  ∃ (f : Addr) (fd : FuncData), mg x = some (.ref f) ∧ PySem.W.keepIn K (.ref f) = true ∧ Binds K fd ps [] ∧ FnOk P w K mg base (L2.CX P w) k f fd ps sp ∧ ∃ oc od osl, K.lookup f = some ⟨oc, od, .func fd, osl⟩
theorem Ok.mono {P : Program} {w : World} {K : PySem.W.Frag} {mg : Str → Option Value} {base : Heap} {j k : Nat} {x : Str} {ps : List Str} {sp : Sp} (O : Ok P w K mg base j x ps sp) (h : j ≤ k) : Ok P w K mg base k x ps sp := by
  obtain ⟨f, fd, h1, h2, h3, h4, h5⟩ := O
  exact ⟨f, fd, h1, h2, h3, h4.mono h, h5⟩
theorem Ok.imp {P : Program} {w : World} {K : PySem.W.Frag} {mg : Str → Option Value} {base : Heap} {k : Nat} {x : Str} {ps : List Str} {sp sp' : Sp} (O : Ok P w K mg base k x ps sp) (h : ∀ vs H Q E, sp' vs H Q E → sp vs H Q E) : Ok P w K mg base k x ps sp' := by
  obtain ⟨f, fd, h1, h2, h3, h4, h5⟩ := O
  exact ⟨f, fd, h1, h2, h3, h4.imp h, h5⟩
section
variable {X : Cx} {k : Nat} {x : Str} {ps : List Str} {sp : Sp} {E : XK} {p pos : Pos} {e : Expr} {es : List Expr} {t : TA}
theorem pc (O : Ok X.prog X.w X.K X.mg X.base k x ps sp) (hr : Room k X.A) (hg : Gl X x) (hx : Passes (L2.CX X.prog X.w) X E) (ha : PA X (e :: es) t)
    (hdb : (x == ("__debug__" : Str)) = false := by decide) (he : starEach (e :: es) X.env = (false, eval e X.env) :: starEach es X.env := by rfl) (hpl : (backTo pos (starEach es X.env)).any (·.1) = false := by rfl) :
    PE X (.Call (.Name x p) (e :: es) [] pos) (tCall sp [] E t) := by
  obtain ⟨f, fd, h1, h2, h3, h4, h5⟩ := O
  exact pe_call h4 hr hg h1 h2 h3 .nil hx ha hdb he hpl
theorem pc0 (O : Ok X.prog X.w X.K X.mg X.base k x [] sp) (hr : Room k X.A) (hg : Gl X x) (hx : Passes (L2.CX X.prog X.w) X E)
    (hdb : (x == ("__debug__" : Str)) = false := by decide) : PE X (.Call (.Name x p) [] [] pos) (tCall sp [] E tNil) := by
  obtain ⟨f, fd, h1, h2, h3, h4, h5⟩ := O
  exact pe_call0 h4 hr hg h1 h2 h3 .nil hx hdb
end
abbrev FnP (K : PySem.W.Frag) (x : Str) (st : Stmt) (f : Addr) (fd : FuncData) : Prop := FunD K x x (defArgs st) (defBody st) (defScope st) [] [] f fd
/-- the def st stands at the module's name x -/
def At (K : PySem.W.Frag) (mg : Str → Option Value) (x : Str) (st : Stmt) : Prop := ∃ (f : Addr) (fd : FuncData), FnP K x st f fd ∧ mg x = some (.ref f)
section
variable {P : Program} {w : World} {K : PySem.W.Frag} {mg : Str → Option Value} {base : Heap}
/-- the body's own context -/
abbrev cb (P : Program) (w : World) (K : PySem.W.Frag) (mg : Str → Option Value) (base : Heap) (N : List Str) (x : Str) (st : Stmt) (f : Addr) (cdv : Value) (A : Around) (outer : List Env) (s : Shared) (H : Hp) (E : XK) : Cx :=
  cxOf (L2.CX P w) P w K mg base N x (defScope st) f cdv A outer s H E
theorem mk {x : Str} {st : Stmt} {N ps : List Str} {k : Nat} {sp : Sp} (F : At K mg x st) (S : FnScope N ps (defScope st))
    (bd : ∀ (kV doc pm : Value) (an : Option Addr) (cdv ct : Value) (us : List Value), us.length = ps.length → bindArgs (PySem.W.fnOf x x (defArgs st) (defBody st) (defScope st) .none kV doc pm an cdv ct) ⟨us, []⟩ = pure (ps.zip us))
    (len : ∀ vs H Q E, sp vs H Q E → vs.length = ps.length)
    (hbody : ∀ (f : Addr) (cdv : Value) (A : Around) (outer : List Env) (s : Shared) (H : Hp) (vs : List V) (Q : VK) (E : XK), Room k (cb P w K mg base N x st f cdv A outer s H E).A → sp vs H Q E →
      ∃ t, PSs (cb P w K mg base N x st f cdv A outer s H E) (defBody st) t ∧ t { nx := fun _ H' => Q .non H', rt := Q } (start N vs) H) :
    Ok P w K mg base (k + 1) x ps sp := by
  obtain ⟨f, fd, F, hm⟩ := F
  refine ⟨f, fd, hm, F.kp, F.bindsN bd, F.ok S len fun cdv A outer s H vs Q E hr h => hbody f cdv A outer s H vs Q E hr h, ?_⟩
  obtain ⟨oc, od, dV, kV, doc, pm, an, cdv, ct, osl, rfl, lk, hcd, _, _⟩ := F.ex
  exact ⟨oc, od, osl, lk⟩
/-- the same where a token must be out -/
theorem mkT {x : Str} {st : Stmt} {N ps : List Str} {k : Nat} {sp : Sp} (F : At K mg x st) (Sc : FnScope N ps (defScope st)) (hnc : ∀ y ∈ (defScope st).names, y.2 ≠ .cell) (hps : 1 ≤ ps.length)
    (bd : ∀ (kV doc pm : Value) (an : Option Addr) (cdv ct : Value) (us : List Value), us.length = ps.length → bindArgs (PySem.W.fnOf x x (defArgs st) (defBody st) (defScope st) .none kV doc pm an cdv ct) ⟨us, []⟩ = pure (ps.zip us))
    (len : ∀ vs H Q E, sp vs H Q E → vs.length = ps.length)
    (hbody : ∀ (f : Addr) (cdv : Value) (A : Around) (outer : List Env) (s : Shared) (H : Hp) (vs : List V) (Q : VK) (E : XK), Room k (cb P w K mg base N x st f cdv A outer s H E).A → sp vs H Q E →
      ∃ t, PSsT (cb P w K mg base N x st f cdv A outer s H E) (defBody st) t ∧ t { nx := fun _ H' => Q .non H', rt := Q } (start N vs) H) :
    Ok P w K mg base (k + 1) x ps sp := by
  obtain ⟨f, fd, F, hm⟩ := F
  have bn := F.bindsN bd
  have kp := F.kp
  obtain ⟨oc, od, dV, kV, doc, pm, an, cdv, ct, osl, rfl, lk, hcd, _, _⟩ := F.ex
  exact ⟨f, _, hm, kp, bn, fn_ofT lk hcd Sc hnc hps len fun A outer s H vs Q E hr hsp => hbody f cdv A outer s H vs Q E hr hsp, oc, od, osl, lk⟩
theorem tkb {N : List Str} {x : Str} {st : Stmt} {f : Addr} {cdv : Value} {A : Around} {outer : List Env} {s : Shared} {H : Hp} {E : XK} : Takes (cb P w K mg base N x st f cdv A outer s H E) (fun c d _ H' => E c d H') := takes_of rfl rfl rfl rfl
theorem psb {N : List Str} {x : Str} {st : Stmt} {f : Addr} {cdv : Value} {A : Around} {outer : List Env} {s : Shared} {H : Hp} {E : XK} : Passes (L2.CX P w) (cb P w K mg base N x st f cdv A outer s H E) E := passes_call tkb fun _ _ _ _ h => h
end
theorem cb_K {P : Program} {w : World} {K : PySem.W.Frag} {mg : Str → Option Value} {base : Heap} {N : List Str} {x : Str} {st : Stmt} {f : Addr} {cdv : Value} {A : Around} {outer : List Env} {s : Shared} {H : Hp} {E : XK} : (cb P w K mg base N x st f cdv A outer s H E).K = K := rfl
theorem tyV_str {K : PySem.W.Frag} {z : Str} {H : Hp} : tyV K "str" (.str z) H = True := by
  unfold tyV
  simp
theorem tyV_lst {K : PySem.W.Frag} {i : Addr} {xs : List V} {H : Hp} (h : H i = some (.lst xs)) : tyV K "list" (.ref i) H := Or.inl ⟨rfl, _, .inl (.inl h)⟩
theorem scal_ss {a b : Str} : scal (.str a) (.str b) = true := rfl
theorem scal_ii {a b : Int} : scal (.int a) (.int b) = true := rfl
theorem scal_bb {a b : Bool} : scal (.bl a) (.bl b) = true := rfl
/-- a text by its signs -/
abbrev S (l : List Nat) : V := .str ⟨l.toArray⟩
end Cm
namespace Tx
open PySem
theorem arr1 {a b : Nat} : ((#[a] : Array Nat) = #[b]) ↔ (a = b) := by simp
theorem str_len (l : List Nat) : PySem.Str.length ⟨l.toArray⟩ = l.length := by simp [PySem.Str.length]
theorem at_nat {α : Type} (t : List α) (a : Nat) : L2.atI t (a : Int) = t[a]? := by
  unfold L2.atI L2.ixN
  rw [if_pos (Int.natCast_nonneg a)]
  by_cases h : a < t.length
  · rw [if_pos (by omega)]
    simp
  · rw [if_neg (by omega)]
    simp [List.getElem?_eq_none (Nat.le_of_not_lt h)]
theorem cut_nat (t : List Nat) (a b : Nat) : L2.cutS ⟨t.toArray⟩ (some (a : Int)) (some (b : Int)) = ⟨((t.drop a).take (b - a)).toArray⟩ := by
  unfold L2.cutS
  rw [str_len, HT.sIx_nat, HT.sIx_nat]
  show (⟨((t.drop (min a t.length)).take (min b t.length - min a t.length)).toArray⟩ : Str) = _
  congr 2
  by_cases h : a ≤ t.length
  · rw [Nat.min_eq_left h]
    by_cases h2 : b ≤ t.length
    · rw [Nat.min_eq_left h2]
    · rw [Nat.min_eq_right (by omega), List.take_of_length_le (by rw [List.length_drop]; omega), List.take_of_length_le (by rw [List.length_drop]; omega)]
  · have e : min a t.length = t.length := Nat.min_eq_right (by omega)
    rw [e, List.drop_of_length_le (Nat.le_refl _), List.drop_of_length_le (by omega)]
    simp
/-- the first place from a on at which c stands -/
def findFrom (t : List Nat) (c a : Nat) : Option Nat := ((t.drop a).findIdx? (· == c)).map (· + a)
theorem findFrom_none {t : List Nat} {c a : Nat} (h : ∀ v, a ≤ v → v < t.length → t.getD v 0 ≠ c) : findFrom t c a = none := by
  unfold findFrom
  rw [Option.map_eq_none_iff, List.findIdx?_eq_none_iff]
  intro x hx
  obtain ⟨i, hi, e⟩ := List.mem_iff_getElem.mp hx
  rw [List.getElem_drop] at e
  rw [List.length_drop] at hi
  have := h (a + i) (by omega) (by omega)
  rw [List.getD_eq_getElem?_getD, List.getElem?_eq_getElem (by omega), Option.getD_some, e] at this
  simpa using this
theorem findFrom_some {t : List Nat} {c a k : Nat} (h1 : a ≤ k) (h2 : k < t.length) (h3 : t.getD k 0 = c) (h : ∀ v, a ≤ v → v < k → t.getD v 0 ≠ c) : findFrom t c a = some k := by
  unfold findFrom
  rw [Option.map_eq_some_iff]
  refine ⟨k - a, ?_, by omega⟩
  rw [List.findIdx?_eq_some_iff_getElem]
  refine ⟨by rw [List.length_drop]; omega, ?_, fun j hj => ?_⟩
  · rw [List.getElem_drop]
    have e : a + (k - a) = k := by omega
    rw [List.getD_eq_getElem?_getD, List.getElem?_eq_getElem h2, Option.getD_some] at h3
    simp only [e, h3, beq_self_eq_true]
  · rw [List.getElem_drop]
    have := h (a + j) (by omega) (by omega)
    rw [List.getD_eq_getElem?_getD, List.getElem?_eq_getElem (by omega), Option.getD_some] at this
    simpa using this
theorem find_one (t : List Nat) (c a : Nat) : Txt.find3 ⟨t.toArray⟩ ⟨#[c]⟩ (a : Int) = (match findFrom t c a with | some k => (k : Int) | none => -1) := by
  have ef : fromIndex t.length (a : Int) = a := by
    unfold fromIndex
    rw [if_neg (by omega)]
    omega
  have eg : ∀ v, (⟨t.toArray⟩ : Str).cps.getD v 0 = t.getD v 0 := fun v => by
    simp [Array.getD, List.getD_eq_getElem?_getD]
    split <;> simp_all
  rcases StrLaws.find3_spec ⟨t.toArray⟩ c (a : Int) with ⟨e, h⟩ | ⟨k, e, h⟩
  · rw [e, findFrom_none]
    intro v h1 h2
    rw [← eg]
    exact h v (by rw [str_len, ef]; exact h1) (by rw [str_len]; exact h2)
  · rw [str_len, ef] at h
    obtain ⟨h1, h2, h3, h4⟩ := h
    rw [e, findFrom_some h1 h2 (by rw [← eg]; exact h3) (fun v a1 a2 => by rw [← eg]; exact h4 v a1 a2)]
theorem sw_nat (t w : List Nat) (a : Nat) (h : a ≤ t.length) : Txt.startswith3 ⟨t.toArray⟩ ⟨w.toArray⟩ (a : Int) = w.isPrefixOf (t.drop a) := by
  have ef : fromIndex t.length (a : Int) = a := by
    unfold fromIndex
    rw [if_neg (by omega)]
    omega
  unfold Txt.startswith3
  rw [str_len, str_len, ef, StrLaws.subAt_eq, str_len]
  show (decide (a + w.length ≤ t.length) && ((t.drop a).take w.length == w)) = _
  rw [Bool.eq_iff_iff, Bool.and_eq_true, decide_eq_true_eq, beq_iff_eq, List.isPrefixOf_iff_prefix, List.prefix_iff_eq_take]
  constructor
  · rintro ⟨_, e⟩
    exact e.symm
  · intro e
    refine ⟨?_, e.symm⟩
    have := congrArg List.length e
    rw [List.length_take, List.length_drop] at this
    omega
theorem cut_1m1 (t : List Nat) : L2.cutS ⟨t.toArray⟩ (some 1) (some (-1)) = ⟨((t.drop 1).take (t.length - 2)).toArray⟩ := by
  unfold L2.cutS
  rw [str_len]
  show (⟨((t.drop (min 1 t.length)).take (((-1 : Int) + (t.length : Int)).toNat - min 1 t.length)).toArray⟩ : Str) = _
  congr 2
  by_cases h : 1 ≤ t.length
  · rw [Nat.min_eq_left h, show ((-1 : Int) + (t.length : Int)).toNat - 1 = t.length - 2 by omega]
  · have e : t = [] := List.length_eq_zero_iff.mp (by omega)
    subst e
    rfl
theorem repl_list (x y z : List Nat) (hy : 1 ≤ y.length) : Txt.replace ⟨x.toArray⟩ ⟨y.toArray⟩ ⟨z.toArray⟩ = ⟨(StrLaws.replL y z x).toArray⟩ := by
  have h := StrLaws.replace_list (x := ⟨x.toArray⟩) (y := ⟨y.toArray⟩) (z := ⟨z.toArray⟩) (by rw [str_len]; exact hy)
  have h2 : (Txt.replace ⟨x.toArray⟩ ⟨y.toArray⟩ ⟨z.toArray⟩).cps.toList = StrLaws.replL y z x := h
  rw [← h2]
end Tx
namespace Cm
open PySem PySem.Spec PyProof.Rows L2
/-! ### an own error class of one field -/
/-- what the module tells of the error class x at C with the field f -/
structure Err1 (P : Program) (w : World) (K : PySem.W.Frag) (mg : Str → Option Value) (base : Heap) (x f : Str) (C : Addr) : Prop where
  g : mg x = some (.ref C)
  oex : OexC K C
  ini : ∃ fI fd, PySem.W.findIn K (.ref C) "__init__" = some (some (.ref fI)) ∧ PySem.W.typeIn K (.ref fI) = some (.type "function") ∧ Binds K fd ["self", f] [] ∧
    FnOk P w K mg base CX0 1 fI fd ["self", f] (fun vs H Q _ => ∃ (a : Addr) (v : V), vs = [.ref a, v] ∧ H a = some (exo a C none) ∧ ∀ dx, H dx = none → dx ≠ a → Q .non (upd (upd H dx (exd dx [(f, v)])) a (exo a C (some dx))))
  xf : XfC K C
  no : PySem.W.findIn K (.ref C) f = some none
  em : PySem.W.exmOne K (.ref C) (.ref C) = some true
/-- the reading of x(e) -/
def tErr (C : Addr) (f : Str) (ta : TE) : L2.St → Hp → XK → Prop := fun σ H Q => ta σ H fun v H1 => ∀ d, H1 d = none → Q (.ref C) (some d) (upd H1 d (.xd [(f, v)]))
theorem upd_del {H : Hp} {a d : Addr} {o u z : HO} (h : H a = none) (hd : d ≠ a) : upd (del (upd (upd H d o) a u) a) d z = upd H d z := by
  funext b
  by_cases hb : b = d
  · subst hb
    rw [upd_same, upd_same]
  · rw [upd_ne hb, upd_ne hb]
    by_cases ha : b = a
    · subst ha
      rw [del_same, h]
    · rw [del_ne ha, upd_ne ha, upd_ne hb]
/-- a reading made monotone -/
def up (te : TE) : TE := fun σ H Q => ∃ R : VK, te σ H R ∧ ∀ v H1, R v H1 → Q v H1
theorem pe_up {X : Cx} {e : Expr} {te : TE} (h : PE X e te) : PE X e (up te) := ⟨fun pins s σ H Q I q => by
  obtain ⟨R, q1, q2⟩ := q
  exact thn (h.run pins s σ H R I q1) fun u s1 ⟨v, H1, I1, r1, z⟩ => ⟨v, H1, I1, r1, q2 v H1 z⟩⟩
theorem pmk1 {X : Cx} {x f : Str} {C : Addr} {e : Expr} {te : TE} {p pos : Pos} {k : Nat} (R : Err1 X.prog X.w X.K X.mg X.base x f C) (hr : Room k X.A) (hg : Gl X x) (he : PE X e te) (hk : 2 ≤ k := by decide)
    (hdb : (x == ("__debug__" : Str)) = false := by decide) (h1 : starEach [e] X.env = (false, eval e X.env) :: starEach [] X.env := by rfl) (h2 : (backTo pos (starEach [] X.env)).any (·.1) = false := by rfl) :
    PMk X (.Call (.Name x p) [e] [] pos) (tErr C f te) := by
  obtain ⟨fI, fd, iC, tI, bd, F1⟩ := R.ini
  have M := pmk_oex (p := p) (pos := pos) R.oex iC tI F1 (hr.mono hk) bd .nil (pass0 (X := X)) hg R.g (pa_cons (pe_up he) pa_nil h1) hdb h1 h2
  intro pins s σ H Q I h
  refine M pins s σ H Q I ⟨_, h, fun v H1 q => ?_⟩
  refine ⟨by show 1 ≤ 1000; decide, fun a ha => ⟨a, v, rfl, upd_same, fun dx hx hne => ⟨rfl, dx, [(f, v)], upd_same, ?_, ?_, ?_⟩⟩⟩
  · rw [upd_ne hne, upd_same]
  · rw [upd_ne hne] at hx
    exact hx
  · rw [upd_ne hne] at hx
    have e : upd (del (upd (upd (upd H1 a (exo a C none)) dx (exd dx [(f, v)])) a (exo a C (some dx))) a) dx (.xd [(f, v)]) = upd H1 dx (.xd [(f, v)]) := by
      funext b
      by_cases hb : b = dx
      · subst hb
        rw [upd_same, upd_same]
      · rw [upd_ne hb, upd_ne hb]
        by_cases hz : b = a
        · subst hz
          rw [del_same, ha]
        · rw [del_ne hz, upd_ne hz, upd_ne hb, upd_ne hz]
    rw [e]
    exact q dx hx
/-! ### names of the module -/
def GInt (mg : Str → Option Value) (x : Str) (i : Int) : Prop := ∃ t, mg x = some (.int i t)
def GStr (mg : Str → Option Value) (x : Str) (l : List Nat) : Prop := ∃ t, mg x = some (.str ⟨l.toArray⟩ t)
def GTup (K : PySem.W.Frag) (mg : Str → Option Value) (x : Str) (xs : List V) : Prop := ∃ a, mg x = some (.ref a) ∧ ∀ H : Hp, SqT K H a xs
def tGT (K : PySem.W.Frag) (xs : List V) : TE := fun _ H Q => ∀ a, (∀ H' : Hp, SqT K H' a xs) → Q (.ref a) H
section
variable {X : Cx} {x : Str} {p : Pos}
theorem pn_int {i : Int} (hg : Gl X x) (h : GInt X.mg x i) (hd : (x == ("__debug__" : Str)) = false := by decide) : PE X (.Name x p) (tC (.int i)) := by
  obtain ⟨t, h⟩ := h
  exact pe_glob hg h ⟨t, rfl⟩ hd
theorem pn_str {l : List Nat} (hg : Gl X x) (h : GStr X.mg x l) (hd : (x == ("__debug__" : Str)) = false := by decide) : PE X (.Name x p) (tC (S l)) := by
  obtain ⟨t, h⟩ := h
  exact pe_glob hg h ⟨t, rfl⟩ hd
theorem pn_tup {xs : List V} (hg : Gl X x) (h : GTup X.K X.mg x xs) (hd : (x == ("__debug__" : Str)) = false := by decide) : PE X (.Name x p) (tGT X.K xs) := by
  obtain ⟨a, h, q⟩ := h
  refine ⟨fun pins s σ H Q I z => ?_⟩
  exact (pe_glob (v := .ref a) hg h rfl hd).run pins s σ H Q I (z a q)
end
end Cm
namespace Cm
open PySem PySem.Spec PyProof.Rows L2
theorem pe_strL (l : List Nat) {X : Cx} {x : Str} {j : Nat} {pos : Pos} (h : x = ⟨l.toArray⟩ := by decide +kernel) : PE X (.Constant (.str x) j pos) (tC (S l)) := by
  subst h
  exact pe_str
theorem nat_succ (a : Nat) : (a : Int) + 1 = ((a + 1 : Nat) : Int) := rfl
theorem nat_two (a : Nat) : (a : Int) + 2 = ((a + 2 : Nat) : Int) := rfl
theorem nat_add (a b : Nat) : (a : Int) + (b : Int) = ((a + b : Nat) : Int) := rfl
theorem toArr_inj {a b : List Nat} : a.toArray = b.toArray ↔ a = b := by simp
theorem same_new {H : Hp} {p : Addr} {o : HO} (h : H p = none) : Same H (upd H p o) := fun b u e => by
  rw [upd_ne (ne_of_none e h)]
  exact e
theorem two_one (x : Nat) : x + 2 - (x + 1) = 1 := by omega
theorem szl {n : Nat} (h : n ≤ 100000) : n ≤ sizeLine := Nat.le_trans h (by decide)
end Cm
/-! the words, as plain functions of what stands from a place on -/
namespace Lx
open PySem L2
abbrev Sv (l : List Nat) : V := .str ⟨l.toArray⟩
def kLETTERS : List Nat := [97, 98, 99, 100, 101, 102, 103, 104, 105, 106, 107, 108, 109, 110, 111, 112, 113, 114, 115, 116, 117, 118, 119, 120, 121, 122, 65, 66, 67, 68, 69, 70, 71, 72, 73, 74, 75, 76, 77, 78, 79, 80, 81, 82, 83, 84, 85, 86, 87, 88, 89, 90]
def kDIGITS : List Nat := [48, 49, 50, 51, 52, 53, 54, 55, 56, 57]
def kNAME_SIGNS : List Nat := [97, 98, 99, 100, 101, 102, 103, 104, 105, 106, 107, 108, 109, 110, 111, 112, 113, 114, 115, 116, 117, 118, 119, 120, 121, 122, 65, 66, 67, 68, 69, 70, 71, 72, 73, 74, 75, 76, 77, 78, 79, 80, 81, 82, 83, 84, 85, 86, 87, 88, 89, 90, 48, 49, 50, 51, 52, 53, 54, 55, 56, 57]
def kOPERATORS_FIRST : List (List Nat) := [[47, 47], [92, 92], [60, 61], [62, 61], [61, 61], [126, 61], [126, 126], [43], [45], [42], [60], [62], [61], [44]]
def kSIGNS_FIRST : List (List Nat) := [[58, 61], [35, 40], [40], [41], [91], [93], [58], [124], [94], [46], [59]]
def kENDS : List (List Nat) := [[110, 97, 109, 101], [105, 110, 116], [115, 116, 114], [115, 121, 109]]
def kCLOSING : List (List Nat) := [[41], [93]]
/-- kinds -/
def kName : List Nat := [110, 97, 109, 101]
def kKeyword : List Nat := [107, 101, 121, 119, 111, 114, 100]
def kInt : List Nat := [105, 110, 116]
def kStr : List Nat := [115, 116, 114]
def kSym : List Nat := [115, 121, 109]
def kOp : List Nat := [111, 112]
def kSign : List Nat := [115, 105, 103, 110]

def runLen (sg r : List Nat) : Nat := (r.takeWhile fun c => decide (c ∈ sg)).length
def nameLen (r : List Nat) : Nat := if r.headD 0 ∈ kLETTERS then (if runLen kNAME_SIGNS r ≤ 40 then runLen kNAME_SIGNS r else 0) else 0
def kwLen (r : List Nat) : Nat := if 0 < nameLen r ∧ r[nameLen r]? = some 58 ∧ r[nameLen r + 1]? ≠ some 61 then nameLen r + 1 else 0
def kwsLenF : Nat → List Nat → Nat
  | 0, _ => 0
  | f + 1, r => if 0 < kwLen r then kwLen r + kwsLenF f (r.drop (kwLen r)) else 0
def kwsLen (r : List Nat) : Nat := kwsLenF r.length r
/-- behind the first sign of a string: how many signs to its end, if it ends -/
def tick : List Nat → Option Nat
  | [] => none
  | [c] => if c = 39 then some 1 else none
  | c :: d :: r => if c = 39 then (if d = 39 then (tick r).map (· + 2) else some 1) else (tick (d :: r)).map (· + 1)
/-- of a string that begins there -/
def strLen (r : List Nat) : Option Nat := (tick (r.drop 1)).map (· + 1)
def unq (l : List Nat) : List Nat := StrLaws.replL [39, 39] [39] ((l.drop 1).take (l.length - 2))
def firstOf (cs : List (List Nat)) (r : List Nat) : List Nat := (cs.find? fun w => w.isPrefixOf r).getD []
/-- of a symbol that begins there: 0 if there is none, none if it does not end -/
def symLen (r : List Nat) : Option Nat :=
  if r[1]? = some 39 then (strLen (r.drop 1)).map (· + 1)
  else
    let n := if kwsLen (r.drop 1) < nameLen (r.drop 1) then nameLen (r.drop 1) else kwsLen (r.drop 1)
    let m := if n = 0 then (firstOf kOPERATORS_FIRST (r.drop 1)).length else n
    some (if 0 < m then m + 1 else 0)
abbrev Tok := List Nat × V × Nat
def signWord (r : List Nat) : Option Tok :=
  if firstOf kOPERATORS_FIRST r = [] then (if firstOf kSIGNS_FIRST r = [] then none else some (kSign, Sv (firstOf kSIGNS_FIRST r), (firstOf kSIGNS_FIRST r).length))
  else some (kOp, Sv (firstOf kOPERATORS_FIRST r), (firstOf kOPERATORS_FIRST r).length)
def symWord (r : List Nat) : Option Tok := match symLen r with
  | none => none
  | some n => if 0 < n then some (kSym, Sv (if r[1]? = some 39 then unq ((r.drop 1).take (n - 1)) else (r.drop 1).take (n - 1)), n) else signWord r
def nameWord (r : List Nat) : Option Tok :=
  if 0 < kwLen r then some (kKeyword, Sv (r.take (kwLen r)), kwLen r)
  else if nameLen r = 0 then none else some (kName, Sv (r.take (nameLen r)), nameLen r)
def strWord (r : List Nat) : Option Tok := (strLen r).map fun n => (kStr, Sv (unq (r.take n)), n)
def intLen (r : List Nat) (neg : Bool) : Nat :=
  let s := if neg = true ∧ r.headD 0 = 45 then 1 else 0
  let n := runLen kDIGITS (r.drop s)
  if 1 ≤ n ∧ n ≤ 60 then s + n else 0
def intOf (l : List Nat) : Int := if l.headD 0 = 45 then -((NumText.digitsVal (l.drop 1) : Nat) : Int) else ((NumText.digitsVal l : Nat) : Int)
def wordAt (r : List Nat) (neg : Bool) : Option Tok :=
  let c := r.headD 0
  if c ∈ kLETTERS then nameWord r else if c = 39 then strWord r else if c = 35 then symWord r
  else if 0 < intLen r neg then some (kInt, .int (intOf (r.take (intLen r neg))), intLen r neg) else signWord r
def commentLen (r : List Nat) : Option Nat := ((r.drop 1).findIdx? (· == 34)).map (· + 2)
abbrev Toks := List Tok
def mayNeg (ws : Toks) (wi : List Bool) : Bool := match ws.getLast? with
  | none => true
  | some (k, v, _) => if wi.getLast? = some true then true else !(decide (k ∈ kENDS)) && !(decide (k = kSign) && inV v (kCLOSING.map Sv))
def noteSign (wi : List Bool) (k : List Nat) (v : V) : List Bool :=
  let w1 := if k = kSign ∧ (v = Sv [35, 40] ∨ v = Sv [40]) then wi ++ [decide (v = Sv [35, 40]) || decide (wi.getLast? = some true)] else wi
  if k = kSign ∧ v = Sv [41] ∧ w1 ≠ [] then w1.dropLast else w1
/-- the words from a place on: the place at which none begins, or the words -/
def lexF : Nat → List Nat → Nat → Toks → List Bool → Except Nat Toks
  | 0, _, _, ws, _ => .ok ws
  | f + 1, r, p, ws, wi => match r with
    | [] => .ok ws
    | c :: _ =>
      if c = 32 ∨ c = 10 then lexF f (r.drop 1) (p + 1) ws wi
      else if c = 34 then (match commentLen r with
        | none => .error p
        | some n => lexF f (r.drop n) (p + n) ws wi)
      else match wordAt r (mayNeg ws wi) with
        | none => .error p
        | some (k, v, n) => lexF f (r.drop n) (p + n) (ws ++ [(k, v, p)]) (noteSign wi k v)
def lex (t : List Nat) : Except Nat Toks := lexF t.length t 0 [] []

/-! ### lengths -/
theorem runLen_le (sg r : List Nat) : runLen sg r ≤ r.length := (List.takeWhile_sublist _).length_le
theorem runLen_cons (sg : List Nat) (c : Nat) (r : List Nat) : runLen sg (c :: r) = if c ∈ sg then runLen sg r + 1 else 0 := by
  unfold runLen
  rw [List.takeWhile_cons]
  by_cases h : c ∈ sg
  · simp [h]
  · simp [h]
theorem runLen_nil (sg : List Nat) : runLen sg [] = 0 := rfl
theorem nameLen_le (r : List Nat) : nameLen r ≤ r.length := by
  unfold nameLen
  have := runLen_le kNAME_SIGNS r
  split
  · split <;> omega
  · omega
theorem kwLen_le (r : List Nat) : kwLen r ≤ r.length := by
  unfold kwLen
  split
  · rename_i h
    have := (List.getElem?_eq_some_iff.mp h.2.1).1
    omega
  · omega
theorem kwsLenF_le : ∀ (f : Nat) (r : List Nat), kwsLenF f r ≤ r.length
  | 0, r => Nat.zero_le _
  | f + 1, r => by
    unfold kwsLenF
    split
    · have h1 := kwsLenF_le f (r.drop (kwLen r))
      have h2 := kwLen_le r
      rw [List.length_drop] at h1
      omega
    · omega
theorem kwsLenF_more : ∀ (f : Nat) (r : List Nat), r.length ≤ f → kwsLenF f r = kwsLenF r.length r := by
  intro f
  induction f using Nat.strongRecOn with
  | _ f ih =>
    intro r hf
    cases f with
    | zero =>
      have : r.length = 0 := by omega
      rw [this]
    | succ f =>
      by_cases hk : 0 < kwLen r
      · have h2 := kwLen_le r
        obtain ⟨n, hn⟩ : ∃ n, r.length = n + 1 := ⟨r.length - 1, by omega⟩
        rw [hn]
        simp only [kwsLenF, if_pos hk]
        have hl : (r.drop (kwLen r)).length ≤ n := by rw [List.length_drop]; omega
        rw [ih f (Nat.lt_succ_self f) (r.drop (kwLen r)) (by omega)]
        by_cases hnf : n < f + 1
        · rw [ih n hnf (r.drop (kwLen r)) hl]
        · omega
      · have e : ∀ g, kwsLenF (g + 1) r = 0 := fun g => by simp only [kwsLenF, if_neg hk]
        rw [e]
        cases hr : r.length with
        | zero => rfl
        | succ n => rw [e]
theorem kwsLen_step {r : List Nat} (h : 0 < kwLen r) : kwsLen r = kwLen r + kwsLen (r.drop (kwLen r)) := by
  have h2 := kwLen_le r
  unfold kwsLen
  obtain ⟨n, hn⟩ : ∃ n, r.length = n + 1 := ⟨r.length - 1, by omega⟩
  rw [hn]
  simp only [kwsLenF, if_pos h]
  rw [kwsLenF_more n (r.drop (kwLen r)) (by rw [List.length_drop]; omega)]
theorem kwsLen_stop {r : List Nat} (h : ¬ 0 < kwLen r) : kwsLen r = 0 := by
  unfold kwsLen
  cases r.length with
  | zero => rfl
  | succ n => simp only [kwsLenF, if_neg h]
theorem tick_le : ∀ {r : List Nat} {n : Nat}, tick r = some n → 1 ≤ n ∧ n ≤ r.length
  | [], n, h => by simp [tick] at h
  | [c], n, h => by
    unfold tick at h
    split at h
    · cases h; simp
    · cases h
  | c :: d :: r, n, h => by
    unfold tick at h
    split at h
    · split at h
      · obtain ⟨m, h1, rfl⟩ := Option.map_eq_some_iff.mp h
        have := tick_le h1
        simp only [List.length_cons]
        omega
      · cases h; simp
    · obtain ⟨m, h1, rfl⟩ := Option.map_eq_some_iff.mp h
      have := tick_le h1
      simp only [List.length_cons] at this ⊢
      omega
theorem strLen_le {r : List Nat} {n : Nat} (h : strLen r = some n) : 2 ≤ n ∧ n ≤ r.length := by
  obtain ⟨m, h1, rfl⟩ := Option.map_eq_some_iff.mp h
  have := tick_le h1
  rw [List.length_drop] at this
  omega
theorem firstOf_pre (cs : List (List Nat)) (r : List Nat) : firstOf cs r <+: r := by
  unfold firstOf
  cases h : cs.find? fun w => w.isPrefixOf r with
  | none => exact List.nil_prefix
  | some w =>
    have := List.find?_some h
    simpa using this
theorem firstOf_le (cs : List (List Nat)) (r : List Nat) : (firstOf cs r).length ≤ r.length := (firstOf_pre cs r).length_le
theorem symLen_le {r : List Nat} {n : Nat} (h : symLen r = some n) : n ≤ r.length ∧ (0 < n → 2 ≤ n) := by
  unfold symLen at h
  split at h
  · obtain ⟨m, h1, rfl⟩ := Option.map_eq_some_iff.mp h
    have := strLen_le h1
    rw [List.length_drop] at this
    omega
  · rename_i hne
    have h1 := firstOf_le kOPERATORS_FIRST (r.drop 1)
    have h2 := nameLen_le (r.drop 1)
    have h3 := kwsLenF_le (r.drop 1).length (r.drop 1)
    have h3' : kwsLen (r.drop 1) ≤ (r.drop 1).length := h3
    rw [List.length_drop] at h1 h2 h3'
    have h := Option.some.inj h
    clear h3
    generalize kwsLen (r.drop 1) = x at h h3'
    generalize nameLen (r.drop 1) = y at h h2
    generalize (firstOf kOPERATORS_FIRST (r.drop 1)).length = z at h h1
    rw [← h]
    constructor
    · (repeat' split) <;> omega
    · (repeat' split) <;> omega
theorem commentLen_le {r : List Nat} {n : Nat} (h : commentLen r = some n) : 2 ≤ n ∧ n ≤ r.length := by
  obtain ⟨m, h1, rfl⟩ := Option.map_eq_some_iff.mp h
  have := (List.findIdx?_eq_some_iff_getElem.mp h1).1
  rw [List.length_drop] at this
  omega
theorem intLen_le (r : List Nat) (neg : Bool) : intLen r neg ≤ r.length := by
  unfold intLen
  dsimp only
  generalize (if neg = true ∧ r.headD 0 = 45 then 1 else 0) = s
  have := runLen_le kDIGITS (r.drop s)
  rw [List.length_drop] at this
  split
  · omega
  · omega
theorem signWord_le {r : List Nat} {k : List Nat} {v : V} {n : Nat} (h : signWord r = some (k, v, n)) : 0 < n ∧ n ≤ r.length := by
  unfold signWord at h
  split at h
  · split at h
    · cases h
    · rename_i hx
      cases h
      exact ⟨List.length_pos_iff.mpr hx, firstOf_le _ _⟩
  · rename_i hx
    cases h
    exact ⟨List.length_pos_iff.mpr hx, firstOf_le _ _⟩
theorem wordAt_le {r : List Nat} {neg : Bool} {k : List Nat} {v : V} {n : Nat} (h : wordAt r neg = some (k, v, n)) : 0 < n ∧ n ≤ r.length := by
  unfold wordAt at h
  dsimp only at h
  split at h
  · unfold nameWord at h
    split at h
    · cases h
      exact ⟨by assumption, kwLen_le _⟩
    · split at h
      · cases h
      · cases h
        exact ⟨by omega, nameLen_le _⟩
  · split at h
    · unfold strWord at h
      obtain ⟨m, h1, h2⟩ := Option.map_eq_some_iff.mp h
      cases h2
      have := strLen_le h1
      omega
    · split at h
      · unfold symWord at h
        split at h
        · cases h
        · rename_i m hm
          split at h
          · cases h
            exact ⟨by assumption, (symLen_le hm).1⟩
          · exact signWord_le h
      · split at h
        · cases h
          exact ⟨by assumption, intLen_le _ _⟩
        · exact signWord_le h
theorem lexF_more : ∀ (f : Nat) (r : List Nat) (p : Nat) (ws : Toks) (wi : List Bool), r.length ≤ f → lexF f r p ws wi = lexF r.length r p ws wi := by
  intro f
  induction f using Nat.strongRecOn with
  | _ f ih =>
    intro r p ws wi hf
    cases r with
    | nil => cases f <;> rfl
    | cons c q =>
      cases f with
      | zero => simp at hf
      | succ f =>
        have key : ∀ (n p' : Nat) (ws' : Toks) (wi' : List Bool), 0 < n → n ≤ (c :: q).length → lexF f ((c :: q).drop n) p' ws' wi' = lexF q.length ((c :: q).drop n) p' ws' wi' := fun n p' ws' wi' h1 h2 => by
          have hl : ((c :: q).drop n).length ≤ q.length := by rw [List.length_drop]; simp only [List.length_cons]; omega
          simp only [List.length_cons] at hf
          rw [ih f (Nat.lt_succ_self f) _ _ _ _ (by omega)]
          by_cases hq : q.length < f + 1
          · rw [ih q.length hq _ _ _ _ hl]
          · omega
        show lexF (f + 1) (c :: q) p ws wi = lexF (q.length + 1) (c :: q) p ws wi
        simp only [lexF]
        split
        · exact key 1 _ _ _ (by decide) (by simp)
        · split
          · split
            · rfl
            · rename_i n hn
              have := commentLen_le hn
              exact key n _ _ _ (by omega) this.2
          · split
            · rfl
            · rename_i k v n hn
              have := wordAt_le hn
              exact key n _ _ _ this.1 this.2
/-! ### the string's end by its finds -/
open Tx
def tickAt (t : List Nat) (b : Nat) : Option Nat := (tick (t.drop b)).map (· + b)
theorem find_cons {t : List Nat} {b c x : Nat} (h : t[b]? = some x) : findFrom t c b = if x = c then some b else findFrom t c (b + 1) := by
  obtain ⟨hb, e⟩ := List.getElem?_eq_some_iff.mp h
  unfold findFrom
  rw [List.drop_eq_getElem_cons hb, e, List.findIdx?_cons]
  by_cases hx : x = c
  · simp [hx]
  · simp only [if_neg hx, beq_eq_false_iff_ne.mpr hx, Bool.false_eq_true, if_false, Option.map_map]
    congr 1
    funext y
    simp only [Function.comp]
    omega
theorem find_nil {t : List Nat} {b c : Nat} (h : t.length ≤ b) : findFrom t c b = none := by
  unfold findFrom
  rw [List.drop_eq_nil_of_le h]
  rfl
theorem find_some {t : List Nat} {b c e : Nat} (h : findFrom t c b = some e) : b ≤ e ∧ e < t.length := by
  unfold findFrom at h
  obtain ⟨m, h1, rfl⟩ := Option.map_eq_some_iff.mp h
  have := (List.findIdx?_eq_some_iff_getElem.mp h1).1
  rw [List.length_drop] at this
  omega
theorem tickAt_find (t : List Nat) : ∀ (n b : Nat), t.length - b ≤ n → tickAt t b = (match findFrom t 39 b with | none => none | some e => if t[e + 1]? = some 39 then tickAt t (e + 2) else some (e + 1))
  | 0, b, h => by
    rw [find_nil (by omega)]
    unfold tickAt
    rw [List.drop_eq_nil_of_le (by omega)]
    rfl
  | n + 1, b, h => by
    by_cases hb : b < t.length
    · have e := List.getElem?_eq_getElem hb
      rw [find_cons e]
      by_cases hx : t[b] = 39
      · rw [if_pos hx]
        by_cases hb1 : b + 1 < t.length
        · have e1 := List.getElem?_eq_getElem hb1
          show tickAt t b = if t[b + 1]? = some 39 then tickAt t (b + 2) else some (b + 1)
          unfold tickAt
          rw [List.drop_eq_getElem_cons hb, List.drop_eq_getElem_cons hb1, hx, e1]
          by_cases hy : t[b + 1] = 39
          · rw [if_pos (by rw [hy])]
            show Option.map _ (if 39 = 39 then (if t[b + 1] = 39 then (tick (t.drop (b + 1 + 1))).map (· + 2) else some 1) else _) = _
            rw [if_pos rfl, if_pos hy, Option.map_map]
            congr 1
            funext y
            simp only [Function.comp]
            omega
          · rw [if_neg (by intro z; exact hy (Option.some.inj z))]
            show Option.map _ (if 39 = 39 then (if t[b + 1] = 39 then _ else some 1) else _) = _
            rw [if_pos rfl, if_neg hy]
            simp only [Option.map_some]
            congr 1
            omega
        · show tickAt t b = if t[b + 1]? = some 39 then tickAt t (b + 2) else some (b + 1)
          rw [List.getElem?_eq_none (by omega)]
          unfold tickAt
          rw [List.drop_eq_getElem_cons hb, List.drop_eq_nil_of_le (Nat.le_of_not_lt hb1), hx]
          simp [tick]
          omega
      · rw [if_neg hx, ← tickAt_find t n (b + 1) (by omega)]
        unfold tickAt
        rw [List.drop_eq_getElem_cons hb]
        by_cases hb1 : b + 1 < t.length
        · rw [List.drop_eq_getElem_cons hb1]
          show Option.map _ (if t[b] = 39 then _ else (tick (t[b + 1] :: t.drop (b + 1 + 1))).map (· + 1)) = _
          rw [if_neg hx, Option.map_map]
          congr 1
          funext y
          simp only [Function.comp]
          omega
        · rw [List.drop_eq_nil_of_le (Nat.le_of_not_lt hb1)]
          simp [tick, hx]
    · rw [find_nil (by omega)]
      unfold tickAt
      rw [List.drop_eq_nil_of_le (by omega)]
      rfl
theorem strLen_at {t : List Nat} {a : Nat} : (strLen (t.drop a)).map (· + a) = tickAt t (a + 1) := by
  unfold strLen tickAt
  rw [List.drop_drop, Option.map_map]
  congr 1
  funext y
  simp only [Function.comp]
  omega
theorem take1_eq (t : List Nat) (a c : Nat) : (t.drop a).take 1 = [c] ↔ t[a]? = some c := by
  by_cases h : a < t.length
  · rw [List.drop_eq_getElem_cons h, List.getElem?_eq_getElem h]
    show [t[a]] = [c] ↔ some t[a] = some c
    simp only [List.cons.injEq, and_true, Option.some.injEq]
  · rw [List.drop_eq_nil_of_le (by omega), List.getElem?_eq_none (by omega)]
    simp
theorem intLen_le60 (r : List Nat) (neg : Bool) : intLen r neg ≤ 61 := by
  unfold intLen
  dsimp only
  by_cases h : neg = true ∧ r.headD 0 = 45
  · rw [if_pos h]
    split <;> omega
  · rw [if_neg h]
    split <;> omega
theorem run_take (sg r : List Nat) : ∀ c ∈ r.take (runLen sg r), c ∈ sg := by
  induction r with
  | nil => intro c hc; simp at hc
  | cons d r ih =>
    intro c hc
    rw [runLen_cons] at hc
    by_cases h : d ∈ sg
    · rw [if_pos h, List.take_succ_cons] at hc
      rcases List.mem_cons.mp hc with rfl | hc
      · exact h
      · exact ih c hc
    · rw [if_neg h, List.take_zero] at hc
      simp at hc
theorem dig_all {l : List Nat} (h : ∀ c ∈ l, c ∈ kDIGITS) : NumText.AllDigits l := fun c hc => by
  have := h c hc
  simp only [kDIGITS, List.mem_cons, List.not_mem_nil, or_false] at this
  omega
theorem intText_ok {r : List Nat} {neg : Bool} (h : 0 < intLen r neg) : PySem.intText? ⟨(r.take (intLen r neg)).toArray⟩ = some (intOf (r.take (intLen r neg))) := by
  have h60 := intLen_le60 r neg
  have hle := intLen_le r neg
  have hlen : (r.take (intLen r neg)).length = intLen r neg := by rw [List.length_take]; omega
  unfold intLen at h h60 hle hlen ⊢
  dsimp only at h h60 hle hlen ⊢
  by_cases hn : neg = true ∧ r.headD 0 = 45
  · rw [if_pos hn] at h h60 hle hlen ⊢
    by_cases hc : 1 ≤ runLen kDIGITS (r.drop 1) ∧ runLen kDIGITS (r.drop 1) ≤ 60
    · rw [if_pos hc] at h h60 hle hlen ⊢
      cases r with
      | nil => simp at hle
      | cons c q =>
        have ec : c = 45 := hn.2
        subst ec
        have eq : (45 :: q).drop 1 = q := rfl
        rw [eq] at *
        have et : (45 :: q).take (1 + runLen kDIGITS q) = 45 :: q.take (runLen kDIGITS q) := by rw [Nat.add_comm, List.take_succ_cons]
        rw [et]
        have hq : q.take (runLen kDIGITS q) ≠ [] := by
          intro z
          have h1 := congrArg List.length z
          rw [List.length_take] at h1
          have h2 := runLen_le kDIGITS q
          have h3 : 1 ≤ runLen kDIGITS q := hc.1
          have h4 : min (runLen kDIGITS q) q.length = 0 := h1
          omega
        rw [PySem.intText_neg (cs := q.take (runLen kDIGITS q)) rfl (dig_all (run_take kDIGITS q)) hq (by
          rw [Tx.str_len, ← et]
          have h5 : runLen kDIGITS q ≤ 60 := hc.2
          rw [List.length_take]
          omega)]
        rfl
    · rw [if_neg hc] at h
      omega
  · rw [if_neg hn] at h h60 hle hlen ⊢
    rw [List.drop_zero] at *
    by_cases hc : 1 ≤ runLen kDIGITS r ∧ runLen kDIGITS r ≤ 60
    · rw [if_pos hc, Nat.zero_add] at h h60 hle hlen ⊢
      have hd := dig_all (run_take kDIGITS r)
      have hq : r.take (runLen kDIGITS r) ≠ [] := by
        intro z
        have := congrArg List.length z
        rw [hlen] at this
        simp at this
        omega
      rw [PySem.intText_digits (x := ⟨(r.take (runLen kDIGITS r)).toArray⟩) hd hq (by rw [Tx.str_len, hlen]; omega)]
      unfold intOf
      have h45 : ¬ (r.take (runLen kDIGITS r)).headD 0 = 45 := by
        cases e : r.take (runLen kDIGITS r) with
        | nil => exact absurd e hq
        | cons c q =>
          have := hd c (by rw [e]; exact List.mem_cons_self)
          show ¬ c = 45
          omega
      rw [if_neg h45]
    · rw [if_neg hc] at h
      omega
theorem lex_step {t : List Nat} {a : Nat} (h : a < t.length) (ws : Toks) (wi : List Bool) : lexF (t.length - a) (t.drop a) a ws wi =
    if t[a] = 32 ∨ t[a] = 10 then lexF (t.length - (a + 1)) (t.drop (a + 1)) (a + 1) ws wi
    else if t[a] = 34 then (match commentLen (t.drop a) with
      | none => .error a
      | some n => lexF (t.length - (a + n)) (t.drop (a + n)) (a + n) ws wi)
    else match wordAt (t.drop a) (mayNeg ws wi) with
      | none => .error a
      | some (k, v, n) => lexF (t.length - (a + n)) (t.drop (a + n)) (a + n) (ws ++ [(k, v, a)]) (noteSign wi k v) := by
  have key : ∀ n ws' wi', 0 < n → lexF (t.length - a - 1) ((t.drop a).drop n) (a + n) ws' wi' = lexF (t.length - (a + n)) (t.drop (a + n)) (a + n) ws' wi' := fun n ws' wi' hn => by
    rw [List.drop_drop, lexF_more _ _ _ _ _ (by rw [List.length_drop]; omega), List.length_drop]
  obtain ⟨f, hf⟩ : ∃ f, t.length - a = f + 1 := ⟨t.length - a - 1, by omega⟩
  have hf' : t.length - a - 1 = f := by omega
  rw [hf'] at key
  rw [hf]
  have e : t.drop a = t[a] :: t.drop (a + 1) := List.drop_eq_getElem_cons h
  have e2 : lexF (f + 1) (t.drop a) a ws wi = lexF (f + 1) (t[a] :: t.drop (a + 1)) a ws wi := by rw [← e]
  rw [e2]
  simp only [lexF]
  rw [← e]
  split
  · exact key 1 ws wi (by decide)
  · split
    · cases hc : commentLen (t.drop a) with
      | none => rfl
      | some n => exact key n ws wi (by have := commentLen_le hc; omega)
    · cases hc : wordAt (t.drop a) (mayNeg ws wi) with
      | none => rfl
      | some tk =>
        obtain ⟨k, v, n⟩ := tk
        exact key n _ _ (wordAt_le hc).1
theorem lex_end {t : List Nat} {a : Nat} (h : t.length ≤ a) (ws : Toks) (wi : List Bool) : lexF (t.length - a) (t.drop a) a ws wi = .ok ws := by
  rw [show t.length - a = 0 by omega]
  rfl
theorem signWord_val {r : List Nat} {k : List Nat} {v : V} {n : Nat} (h : signWord r = some (k, v, n)) : ∃ l, v = Sv l := by
  unfold signWord at h
  split at h
  · split at h
    · cases h
    · cases h
      exact ⟨_, rfl⟩
  · cases h
    exact ⟨_, rfl⟩
theorem wordAt_val {r : List Nat} {neg : Bool} {k : List Nat} {v : V} {n : Nat} (h : wordAt r neg = some (k, v, n)) : (∃ l, v = Sv l) ∨ ∃ i, v = .int i := by
  unfold wordAt at h
  dsimp only at h
  split at h
  · unfold nameWord at h
    split at h
    · cases h
      exact .inl ⟨_, rfl⟩
    · split at h
      · cases h
      · cases h
        exact .inl ⟨_, rfl⟩
  · split at h
    · unfold strWord at h
      obtain ⟨m, h1, h2⟩ := Option.map_eq_some_iff.mp h
      cases h2
      exact .inl ⟨_, rfl⟩
    · split at h
      · unfold symWord at h
        split at h
        · cases h
        · split at h
          · cases h
            exact .inl ⟨_, rfl⟩
          · exact .inl (signWord_val h)
      · split at h
        · cases h
          exact .inr ⟨_, rfl⟩
        · exact .inl (signWord_val h)
theorem noteSign_len (wi : List Bool) (k : List Nat) (v : V) : (noteSign wi k v).length ≤ wi.length + 1 := by
  unfold noteSign
  dsimp only
  by_cases h1 : k = kSign ∧ (v = Sv [35, 40] ∨ v = Sv [40])
  · rw [if_pos h1]
    split
    · rw [List.length_dropLast]
      simp
    · simp
  · rw [if_neg h1]
    split
    · rw [List.length_dropLast]
      omega
    · omega
end Lx
namespace Cm
open PySem PySem.Spec PyProof.Rows L2
/-! ### == of lists whose items are flat (or of which one is empty) -/
def eqLs : List V → List V → Bool
  | [], [] => true
  | x :: xs, y :: ys => eqV x y && eqLs xs ys
  | [], _ :: _ => false
  | _ :: _, [] => false
def flatP (xs ys : List V) : Bool := (xs.zip ys).all fun p => flatV p.1 && flatV p.2
theorem eqLs_len : ∀ {xs ys : List V}, xs.length ≠ ys.length → eqLs xs ys = false
  | [], [], h => absurd rfl h
  | [], _ :: _, _ => rfl
  | _ :: _, [], _ => rfl
  | x :: xs, y :: ys, h => by
    unfold eqLs
    rw [eqLs_len (fun z => h (by simp [z])), Bool.and_false]
theorem eqLs_range : ∀ {xs ys : List V}, xs.length = ys.length → eqLs xs ys = (List.range xs.length).all fun j => eqV (xs.getD j .non) (ys.getD j .non)
  | [], [], _ => rfl
  | [], _ :: _, h => by simp at h
  | _ :: _, [], h => by simp at h
  | x :: xs, y :: ys, h => by
    unfold eqLs
    rw [eqLs_range (xs := xs) (ys := ys) (by simpa using h), List.length_cons, List.range_succ_eq_map, List.all_cons, List.all_map]
    rfl
def rEqF (K : PySem.W.Frag) : R2 := fun x y H Q => ∃ a b xs ys, x = .ref a ∧ y = .ref b ∧ SqL K H a xs ∧ SqL K H b ys ∧ flatP xs ys = true ∧ Q (.bl (eqLs xs ys)) H
def rNeF (K : PySem.W.Frag) : R2 := fun x y H Q => ∃ a b xs ys, x = .ref a ∧ y = .ref b ∧ SqL K H a xs ∧ SqL K H b ys ∧ flatP xs ys = true ∧ Q (.bl (!eqLs xs ys)) H
theorem flat_at {A : Around} {s : Shared} {xs ys : List V} {us ws : List Value} (r1 : Vals xs us) (r2 : Vals ys ws) (hf : flatP xs ys = true) :
    ∀ j (h1 : j < us.toArray.size) (h2 : j < ws.toArray.size), SeqAt.EqAt A s us.toArray[j] ws.toArray[j] (eqV (xs.getD j .non) (ys.getD j .non)) := fun j h1 h2 => by
  have e1 : j < xs.length := by rw [r1.length]; simpa using h1
  have e2 : j < ys.length := by rw [r2.length]; simpa using h2
  obtain ⟨u, hu, ru⟩ := r1.get (List.getElem?_eq_getElem e1)
  obtain ⟨w', hw, rw'⟩ := r2.get (List.getElem?_eq_getElem e2)
  have eu : us.toArray[j] = u := by
    obtain ⟨_, z⟩ := List.getElem?_eq_some_iff.mp hu
    simpa using z
  have ew : ws.toArray[j] = w' := by
    obtain ⟨_, z⟩ := List.getElem?_eq_some_iff.mp hw
    simpa using z
  have f := List.all_eq_true.mp hf (xs[j], ys[j]) (by
    rw [List.mem_iff_getElem]
    exact ⟨j, by rw [List.length_zip]; omega, by rw [List.getElem_zip]⟩)
  rw [Bool.and_eq_true] at f
  rw [eu, ew, List.getD_eq_getElem?_getD, List.getD_eq_getElem?_getD, List.getElem?_eq_getElem e1, List.getElem?_eq_getElem e2]
  exact eqAt_V ru rw' f.1 f.2
section
variable {X : Cx}
theorem op_eqF (hu : X.A.units < cLine) : OpR X (compareOp .Eq) (rEqF X.K) := by
  intro pins s σ H x y v u Q I rx ry h
  obtain ⟨a, b, xs, ys, rfl, rfl, ha, hb, hf, q⟩ := h
  obtain rfl : v = Value.ref a := rx
  obtain rfl : u = Value.ref b := ry
  obtain ⟨us, r1, p1, _⟩ := I.list ha
  obtain ⟨ws, r2, p2, _⟩ := I.list hb
  by_cases hl : xs.length = ys.length
  · refine SeqAt.eq_listAt (e := fun j => eqV (xs.getD j .non) (ys.getD j .non)) p1.isList p2.isList (by simpa [← r1.length, ← r2.length] using hl) hu (flat_at r1 r2 hf) ?_
    have e : (List.range us.toArray.size) = List.range xs.length := by rw [List.size_toArray, ← r1.length]
    rw [e, ← eqLs_range hl]
    exact ⟨.bl _, H, I, rfl, q⟩
  · rw [eqLs_len hl] at q
    refine SeqAt.eq_list_lengthsAt p1.isList p2.isList ?_ hu ⟨.bl _, H, I, rfl, q⟩
    rw [List.size_toArray, List.size_toArray, ← r1.length, ← r2.length]
    simpa using hl
theorem op_neF (hu : X.A.units < cLine) : OpR X (compareOp .NotEq) (rNeF X.K) := by
  intro pins s σ H x y v u Q I rx ry h
  obtain ⟨a, b, xs, ys, rfl, rfl, ha, hb, hf, q⟩ := h
  obtain rfl : v = Value.ref a := rx
  obtain rfl : u = Value.ref b := ry
  obtain ⟨us, r1, p1, _⟩ := I.list ha
  obtain ⟨ws, r2, p2, _⟩ := I.list hb
  by_cases hl : xs.length = ys.length
  · refine SeqAt.RcNeAt.lists (e := fun j => eqV (xs.getD j .non) (ys.getD j .non)) p1.isList p2.isList (by simpa [← r1.length, ← r2.length] using hl) hu (flat_at r1 r2 hf) _ _ _ _ ?_
    have e : (List.range us.toArray.size) = List.range xs.length := by rw [List.size_toArray, ← r1.length]
    rw [e, ← eqLs_range hl]
    exact ⟨.bl _, H, I, rfl, q⟩
  · rw [eqLs_len hl] at q
    refine SeqAt.RcNeAt.lists_lengths p1.isList p2.isList ?_ hu _ _ _ _ ⟨.bl _, H, I, rfl, q⟩
    rw [List.size_toArray, List.size_toArray, ← r1.length, ← r2.length]
    simpa using hl
end
theorem eqLs_nil (xs : List V) : eqLs xs [] = xs.isEmpty := by cases xs <;> rfl
theorem flatP_nil (xs : List V) : flatP xs [] = true := by unfold flatP; rw [List.zip_nil_right]; rfl
end Cm
namespace Cm
open PySem PySem.Spec PyProof.Rows L2
/-! ### heaps as letters -/
/-- all but i stands as it stood -/
def But (i : Addr) (H H' : Hp) : Prop := ∀ b o, b ≠ i → H b = some o → H' b = some o
theorem But.refl {i : Addr} {H : Hp} : But i H H := fun _ _ _ h => h
theorem But.trans {i : Addr} {H H1 H2 : Hp} (a : But i H H1) (b : But i H1 H2) : But i H H2 := fun c o n h => b c o n (a c o n h)
theorem Same.but {i : Addr} {H H1 : Hp} (a : Same H H1) : But i H H1 := fun c o _ h => a c o h
theorem but_upd {H : Hp} {i : Addr} {o : HO} : But i H (upd H i o) := fun b u n e => by
  rw [upd_ne n]
  exact e
theorem sqL {K : PySem.W.Frag} {H : Hp} {a : Addr} {xs : List V} (h : H a = some (.lst xs)) : SqL K H a xs := .inl (.inl h)
theorem sqT {K : PySem.W.Frag} {H : Hp} {a : Addr} {xs : List V} (h : H a = some (.tup xs)) : SqT K H a xs := .inl (.inl h)
theorem sqT_same {K : PySem.W.Frag} {H H' : Hp} {a : Addr} {xs : List V} (e : Same H H') (h : SqT K H a xs) : SqT K H' a xs := by
  rcases h with (h | ⟨o, h⟩) | h
  · exact .inl (.inl (e _ _ h))
  · exact .inl (.inr ⟨o, e _ _ h⟩)
  · exact .inr h
theorem cutV_last (xs : List V) : cutV xs (some (-1)) none = match xs.getLast? with | some x => [x] | none => [] := by
  cases xs with
  | nil => rfl
  | cons x xs =>
    unfold cutV
    show List.take ((x :: xs).length - HT.sIx (x :: xs).length 0 (some (-1))) (List.drop (HT.sIx (x :: xs).length 0 (some (-1))) (x :: xs)) = _
    have e : HT.sIx (x :: xs).length 0 (some (-1)) = (x :: xs).length - 1 := by
      show (if (-1 : Int) < 0 then ((-1 : Int) + ((x :: xs).length : Int)).toNat else min (-1 : Int).toNat (x :: xs).length) = _
      rw [if_pos (by decide)]
      simp only [List.length_cons]
      omega
    rw [e, List.getLast?_eq_getElem?]
    have hlt : (x :: xs).length - 1 < (x :: xs).length := by simp
    rw [List.getElem?_eq_getElem hlt, List.drop_eq_getElem_cons hlt, List.drop_eq_nil_of_le (by omega), List.take_of_length_le (by simp)]
theorem eq_true_last (wi : List Bool) : eqLs (cutV (wi.map V.bl) (some (-1)) none) [V.bl true] = decide (wi.getLast? = some true) := by
  rw [cutV_last, List.getLast?_map]
  cases wi.getLast? with
  | none => rfl
  | some b => cases b <;> rfl
theorem flat_last (wi : List Bool) : flatP (cutV (wi.map V.bl) (some (-1)) none) [V.bl true] = true := by
  rw [cutV_last, List.getLast?_map]
  cases wi.getLast? with
  | none => rfl
  | some b => rfl
theorem atI_last {α : Type} (xs : List α) : atI xs (-1) = xs.getLast? := by
  cases xs with
  | nil => rfl
  | cons x xs =>
    unfold atI ixN
    rw [if_neg (by decide), if_pos (by simp only [List.length_cons]; omega), List.getLast?_eq_getElem?]
    simp only [Option.bind_some, List.length_cons]
    congr 1
    omega
theorem paired_last {α β : Type} {R : α → β → Prop} : ∀ {xs : List α} {ys : List β} {y : β}, Paired R xs ys → ys.getLast? = some y → ∃ x, xs.getLast? = some x ∧ R x y
  | _, _, _, .nil, h => by cases h
  | _, _, y, .cons (a := a) (b := b) r .nil, h => by
    simp at h
    subst h
    exact ⟨_, rfl, r⟩
  | _, _, y, .cons r (.cons r2 t), h => by
    rw [List.getLast?_cons_cons] at h
    obtain ⟨x, h1, h2⟩ := paired_last (.cons r2 t) h
    exact ⟨x, by rw [List.getLast?_cons_cons]; exact h1, h2⟩
theorem Paired.imp {α β : Type} {R R' : α → β → Prop} (f : ∀ a b, R a b → R' a b) : ∀ {xs : List α} {ys : List β}, Paired R xs ys → Paired R' xs ys
  | _, _, .nil => .nil
  | _, _, .cons r t => .cons (f _ _ r) (Paired.imp f t)
theorem paired_snoc {α β : Type} {R : α → β → Prop} {x : α} {y : β} : ∀ {xs : List α} {ys : List β}, Paired R xs ys → R x y → Paired R (xs ++ [x]) (ys ++ [y])
  | _, _, .nil, r => .cons r .nil
  | _, _, .cons q t, r => .cons q (paired_snoc t r)
end Cm
namespace Cm
open PySem PySem.Spec PyProof.Rows L2
/-- a weaker reading -/
theorem PE.imp {X : Cx} {e : Expr} {t t' : TE} (h : PE X e t) (i : ∀ σ H Q, t' σ H Q → t σ H Q) : PE X e t' := ⟨fun pins s σ H Q I q => h.run pins s σ H Q I (i σ H Q q)⟩
theorem PA.imp {X : Cx} {e : List Expr} {t t' : TA} (h : PA X e t) (i : ∀ σ H Q, t' σ H Q → t σ H Q) : PA X e t' := ⟨fun pos pins s σ H Q I q => h.run pos pins s σ H Q I (i σ H Q q)⟩
/-! ### written data -/
def rm (G : Hp) (a : Addr) : Hp := fun b => if b = a then none else G b
theorem rm_sub {G : Hp} {a : Addr} : Same (rm G a) G := fun b o e => by
  unfold rm at e
  by_cases h : b = a
  · rw [if_pos h] at e
    cases e
  · rw [if_neg h] at e
    exact e
theorem rm_self {G : Hp} {a : Addr} : rm G a a = none := if_pos rfl
theorem rm_same {G G' : Hp} {a : Addr} (s : Same G G') : Same (rm G a) (rm G' a) := fun b o e => by
  by_cases h : b = a
  · rw [h, rm_self] at e
    cases e
  · have e1 : G b = some o := rm_sub _ _ e
    exact (if_neg h).trans (s _ _ e1)
theorem rm_of {G G' : Hp} {a : Addr} (s : Same G G') (n : G a = none) : Same G (rm G' a) := fun b o e => (if_neg (ne_of_none e n)).trans (s _ _ e)
mutual
inductive Lit : Hp → V → PyData → Prop
  | non {G : Hp} : Lit G .non .none
  | bl {G : Hp} (b : Bool) : Lit G (.bl b) (.bool b)
  | int {G : Hp} (i : Int) : Lit G (.int i) (.int i)
  | str {G : Hp} (x : Str) : Lit G (.str x) (.str x)
  | lst {G : Hp} {a : Addr} {xs : List V} {ds : List PyData} : G a = some (.lst xs) → Lits (rm G a) xs ds → Lit G (.ref a) (.list ds)
  | tup {G : Hp} {a : Addr} {xs : List V} {ds : List PyData} : G a = some (.tup xs) → Lits G xs ds → Lit G (.ref a) (.tuple ds)
inductive Lits : Hp → List V → List PyData → Prop
  | nil {G : Hp} : Lits G [] []
  | cons {G : Hp} {v : V} {vs : List V} {d : PyData} {ds : List PyData} : Lit G v d → Lits G vs ds → Lits G (v :: vs) (d :: ds)
end
mutual
theorem Lit.same : ∀ {G G' : Hp} {d : PyData} {v : V}, Lit G v d → Same G G' → Lit G' v d
  | _, _, _, _, .non, _ => .non
  | _, _, _, _, .bl b, _ => .bl b
  | _, _, _, _, .int i, _ => .int i
  | _, _, _, _, .str x, _ => .str x
  | _, _, _, _, .lst h r, s => .lst (s _ _ h) (Lits.same r (rm_same s))
  | _, _, _, _, .tup h r, s => .tup (s _ _ h) (Lits.same r s)
theorem Lits.same : ∀ {G G' : Hp} {ds : List PyData} {vs : List V}, Lits G vs ds → Same G G' → Lits G' vs ds
  | _, _, _, _, .nil, _ => .nil
  | _, _, _, _, .cons h r, s => .cons (Lit.same h s) (Lits.same r s)
end
mutual
theorem Lit.dp0 {K : PySem.W.Frag} {H : Hp} : ∀ {G : Hp} {d : PyData} {v : V}, Lit G v d → Same G H → Dp K H v d
  | _, _, _, .non, _ => .non
  | _, _, _, .bl b, _ => .bl b
  | _, _, _, .int i, _ => .int i
  | _, _, _, .str x, _ => .str x
  | _, _, _, .lst h r, s => .lst (sqL (s _ _ h)) (Lits.dp0 r (rm_sub.trans s))
  | _, _, _, .tup h r, s => .tup (sqT (s _ _ h)) (Lits.dp0 r s)
theorem Lits.dp0 {K : PySem.W.Frag} {H : Hp} : ∀ {G : Hp} {ds : List PyData} {vs : List V}, Lits G vs ds → Same G H → DpAll K H vs ds
  | _, _, _, .nil, _ => .nil
  | _, _, _, .cons h r, s => .cons (Lit.dp0 h s) (Lits.dp0 r s)
end
theorem Lit.dp {K : PySem.W.Frag} {H : Hp} {d : PyData} {v : V} (h : Lit H v d) : Dp K H v d := h.dp0 (Same.refl H)
theorem Lits.length {G : Hp} : ∀ {ds : List PyData} {vs : List V}, Lits G vs ds → vs.length = ds.length
  | _, _, .nil => rfl
  | _, _, .cons _ r => by rw [List.length_cons, List.length_cons, Lits.length r]
theorem Lits.get {G : Hp} : ∀ {ds : List PyData} {vs : List V} {i : Nat} {v : V}, Lits G vs ds → vs[i]? = some v → ∃ d, ds[i]? = some d ∧ Lit G v d
  | _, _, _, _, .nil, h => by simp at h
  | _, _, 0, _, .cons h r, e => by
    simp at e
    subst e
    exact ⟨_, rfl, h⟩
  | _, _, i + 1, _, .cons h r, e => by
    obtain ⟨d, h1, h2⟩ := Lits.get (i := i) r (by simpa using e)
    exact ⟨d, by simpa using h1, h2⟩
theorem Lits.append {G : Hp} : ∀ {ds es : List PyData} {vs ws : List V}, Lits G vs ds → Lits G ws es → Lits G (vs ++ ws) (ds ++ es)
  | _, _, _, _, .nil, r => r
  | _, _, _, _, .cons h t, r => .cons h (Lits.append t r)
/-- G's objects are new over H -/
def New (H G : Hp) : Prop := ∀ a o, G a = some o → H a = none
def tLit (d : PyData) : TE := fun _ H Q => ∀ v G H', New H G → Lit G v d → Same H H' → Same G H' → Q v H'
def tLits (ds : List PyData) : TA := fun _ H Q => ∀ vs G H', New H G → Lits G vs ds → Same H H' → Same G H' → Q vs H'
def unH (G G' : Hp) : Hp := fun a => (G a).or (G' a)
theorem unH_l {G G' : Hp} : Same G (unH G G') := fun a o h => by
  unfold unH
  rw [h]
  rfl
theorem unH_r {G G' : Hp} (h : ∀ a o, G' a = some o → G a = none) : Same G' (unH G G') := fun a o e => by
  unfold unH
  rw [h a o e, e]
  rfl
theorem unH_of {G G' : Hp} {a : Addr} {o : HO} (h : unH G G' a = some o) : G a = some o ∨ G' a = some o := by
  unfold unH at h
  cases q : G a with
  | none => rw [q] at h; exact .inr h
  | some u => rw [q] at h; exact .inl h
section
variable {X : Cx} {pos : Pos} {j : Nat}
theorem pl_of {e : Expr} {v : V} {d : PyData} (h : PE X e (tC v)) (l : Lit (fun _ => none) v d) : PE X e (tLit d) := PE.imp h fun σ H Q q => q v (fun _ => none) H (fun _ _ e => by cases e) l (Same.refl H) (fun _ _ e => by cases e)
theorem pl_int {i : Int} : PE X (.Constant (.int i) j pos) (tLit (.int i)) := pl_of pe_int (.int i)
theorem pl_bl {b : Bool} : PE X (.Constant (.bool b) j pos) (tLit (.bool b)) := pl_of pe_bl (.bl b)
theorem pl_non : PE X (.Constant .none j pos) (tLit .none) := pl_of pe_non .non
theorem pl_str (l : List Nat) {x : Str} (h : x = ⟨l.toArray⟩ := by decide +kernel) : PE X (.Constant (.str x) j pos) (tLit (.str ⟨l.toArray⟩)) := pl_of (pe_strL l h) (.str _)
theorem pls_nil : PA X [] (tLits []) := PA.imp pa_nil fun σ H Q q => q [] (fun _ => none) H (fun _ _ e => by cases e) .nil (Same.refl H) (fun _ _ e => by cases e)
theorem pls_cons {e : Expr} {es : List Expr} {d : PyData} {ds : List PyData} (h : PE X e (tLit d)) (r : PA X es (tLits ds)) (hs : starEach (e :: es) X.env = (false, eval e X.env) :: starEach es X.env := by rfl) : PA X (e :: es) (tLits (d :: ds)) :=
  PA.imp (pa_cons h r hs) fun σ H Q q => by
    intro v G H1 n1 l1 s1 g1 vs G2 H2 n2 l2 s2 g2
    have dj : ∀ a o, G2 a = some o → G a = none := fun a o e => by
      cases q : G a with
      | none => rfl
      | some u =>
        have := n2 a o e
        rw [g1 a u q] at this
        cases this
    refine q (v :: vs) (unH G G2) H2 (fun a o e => ?_) (.cons (l1.same unH_l) (l2.same (unH_r dj))) (s1.trans s2) (fun a o e => ?_)
    · rcases unH_of e with e | e
      · exact n1 a o e
      · exact s1.free (n2 a o e)
    · rcases unH_of e with e | e
      · exact s2 _ _ (g1 _ _ e)
      · exact g2 _ _ e
theorem new_one {H G H1 : Hp} {p : Addr} {o : HO} {v : V} {d : PyData} (n : New H G) (s : Same H H1) (g : Same G H1) (hp : H1 p = none) : New H (unH G fun a => if a = p then some o else none) ∧ Same G (unH G fun a => if a = p then some o else none) ∧ (unH G fun a => if a = p then some o else none) p = some o ∧ Same (unH G fun a => if a = p then some o else none) (upd H1 p o) := by
  have gp : G p = none := g.free hp
  refine ⟨fun a u e => ?_, unH_l, ?_, fun a u e => ?_⟩
  · rcases unH_of e with e | e
    · exact n a u e
    · by_cases h : a = p
      · rw [h]
        exact s.free hp
      · rw [if_neg h] at e
        cases e
  · unfold unH
    rw [gp]
    show (if p = p then some o else none) = some o
    rw [if_pos rfl]
  · rcases unH_of e with e | e
    · rw [upd_ne (ne_of_none e gp)]
      exact g _ _ e
    · by_cases h : a = p
      · rw [if_pos h] at e
        rw [h, upd_same]
        exact e
      · rw [if_neg h] at e
        cases e
theorem pl_tup {es : List Expr} {ds : List PyData} {x1} (h : PA X es (tLits ds)) (hz : ds.length ≤ sizeLine := by decide) : PE X (.Tuple es x1 pos) (tLit (.tuple ds)) :=
  PE.imp (pe_tup h) fun σ H Q q => by
    intro vs G H1 n l s g
    refine ⟨by rw [l.length]; exact hz, fun p hp => ?_⟩
    obtain ⟨a1, a2, a3, a4⟩ := new_one (o := .tup vs) (v := .non) (d := .none) n s g hp
    exact q (.ref p) _ (upd H1 p (.tup vs)) a1 (.tup a3 (l.same a2)) (s.trans (same_new hp)) a4
theorem pl_lst {es : List Expr} {ds : List PyData} (h : PA X es (tLits ds)) (hz : ds.length ≤ sizeLine := by decide) : PE X (.List es pos) (tLit (.list ds)) :=
  PE.imp (pe_lst h) fun σ H Q q => by
    intro vs G H1 n l s g
    refine ⟨by rw [l.length]; exact hz, fun p hp => ?_⟩
    obtain ⟨a1, a2, a3, a4⟩ := new_one (o := .lst vs) (v := .non) (d := .none) n s g hp
    exact q (.ref p) _ (upd H1 p (.lst vs)) a1 (.lst a3 (l.same (rm_of a2 (g.free hp)))) (s.trans (same_new hp)) a4
theorem pl_neg {i : Int} {pos2 : Pos} : PE X (.UnaryOp .USub (.Constant (.int i) j pos) pos2) (tLit (.int (-i))) :=
  PE.imp (pe_un un_neg pe_int) fun σ H Q q => ⟨i, rfl, q (.int (-i)) (fun _ => none) H (fun _ _ e => by cases e) (.int _) (Same.refl H) (fun _ _ e => by cases e)⟩
end
/-! ### x * n of a text -/
theorem mul_list (l : List Nat) (n : Nat) : Txt.mul ⟨l.toArray⟩ (n : Int) = ⟨(List.replicate n l).flatten.toArray⟩ := by
  unfold Txt.mul
  by_cases h0 : n = 0
  · subst h0
    rfl
  · rw [if_neg (by omega)]
    by_cases h1 : ((n : Int) == 1 || (⟨l.toArray⟩ : Str).length == 0) = true
    · rw [if_pos h1]
      rw [Bool.or_eq_true, beq_iff_eq, beq_iff_eq, Tx.str_len] at h1
      rcases h1 with h1 | h1
      · have : n = 1 := by omega
        subst this
        simp
      · have : l = [] := List.length_eq_zero_iff.mp h1
        subst this
        simp
    · rw [if_neg h1]
      congr 1
      have key : ∀ (m : Nat) (acc : List Nat), (List.replicate m l.toArray).foldl (· ++ ·) acc.toArray = (acc ++ (List.replicate m l).flatten).toArray := by
        intro m
        induction m with
        | zero => intro acc; simp
        | succ m ih =>
          intro acc
          rw [List.replicate_succ, List.foldl_cons, List.append_toArray, ih, List.replicate_succ, List.flatten_cons, List.append_assoc]
      have := key n []
      simpa using this
theorem op_mulS {X : Cx} : OpR X (binaryOp .Mult) (fun x y H Q => ∃ (l : List Nat) (n : Nat), x = S l ∧ y = .int (n : Int) ∧ l.length * n ≤ 100000 ∧ n ≤ 100000 ∧ Q (S (List.replicate n l).flatten) H) := by
  intro pins s σ H x y v u Q I rx ry h
  obtain ⟨l, n, rfl, rfl, hl, hn, q⟩ := h
  obtain ⟨t, rfl⟩ := rx
  obtain ⟨t', rfl⟩ := ry
  refine PySem.SB.mul ⟨?_, ?_, ?_⟩ fun t2 k => ⟨S (List.replicate n l).flatten, H, I.tok k, ⟨t2, by rw [mul_list]⟩, q⟩
  · rw [Bool.or_eq_false_iff]
    exact ⟨decide_eq_false (by omega), decide_eq_false (by omega)⟩
  · intro h1 h2
    rw [Tx.str_len]
    have h3 : 1 ≤ n := by omega
    have : (l.length : Int) ≤ 100000 := by
      have : l.length ≤ l.length * n := Nat.le_mul_of_pos_right _ h3
      omega
    have h4 : (100000 : Int) ≤ (2 ^ 63 - 1) / (n : Int) := by
      rw [Int.le_ediv_iff_mul_le (by omega)]
      omega
    omega
  · intro h1 h2
    rw [Tx.str_len, Int.toNat_natCast]
    exact decide_eq_false (by have : (100000 : Nat) ≤ sizeLine := by decide
                              omega)
theorem lit_str {G : Hp} {v : V} {x : Str} (h : Lit G v (.str x)) : v = .str x := by
  cases h
  rfl
section
variable {X : Cx} {pos : Pos} {j : Nat}
theorem pl_addS {a b : Expr} {x y : List Nat} (ha : PE X a (tLit (.str ⟨x.toArray⟩))) (hb : PE X b (tLit (.str ⟨y.toArray⟩))) (hz : x.length + y.length ≤ sizeLine := by decide) : PE X (.BinOp a .Add b pos) (tLit (.str ⟨(x ++ y).toArray⟩)) :=
  PE.imp (pe_op op_add_str ha hb) fun σ H Q q => by
    intro v G H1 n l s g v2 G2 H2 n2 l2 s2 g2
    cases lit_str l
    cases lit_str l2
    refine ⟨_, _, rfl, rfl, by rw [Tx.str_len, Tx.str_len]; exact hz, ?_⟩
    have e : (⟨x.toArray⟩ : Str) ++ (⟨y.toArray⟩ : Str) = ⟨(x ++ y).toArray⟩ := by
      show (⟨x.toArray ++ y.toArray⟩ : Str) = _
      simp
    rw [e]
    exact q _ (fun _ => none) H2 (fun _ _ e => by cases e) (.str _) (s.trans s2) (fun _ _ e => by cases e)
theorem pl_mulS {l : List Nat} {n : Nat} {x : Str} {p2 p3 : Pos} {j2 : Nat} (h : x = ⟨l.toArray⟩ := by decide +kernel) (hz : l.length * n ≤ 100000 := by decide) (hn : n ≤ 100000 := by decide) : PE X (.BinOp (.Constant (.str x) j p2) .Mult (.Constant (.int (n : Nat)) j2 p3) pos) (tLit (.str ⟨(List.replicate n l).flatten.toArray⟩)) :=
  PE.imp (pe_op op_mulS (pe_strL l h) pe_int) fun σ H Q q => ⟨l, n, rfl, rfl, hz, hn, q _ (fun _ => none) H (fun _ _ e => by cases e) (.str _) (Same.refl H) (fun _ _ e => by cases e)⟩
end
/-! ### a list of rows -/
/-- v is a new list of the written rows ds -/
def RowsV (H0 : Hp) (ds : List PyData) (v : V) (H : Hp) : Prop := ∃ l xs G, v = .ref l ∧ H0 l = none ∧ Same H0 H ∧ H l = some (.lst xs) ∧ G l = none ∧ New H0 G ∧ Same G H ∧ Lits G xs ds ∧ xs.length ≤ 1000
theorem RowsV.same {H0 H : Hp} {ds : List PyData} {v : V} (p : RowsV H0 ds v H) : Same H0 H := by
  obtain ⟨l, xs, G, rfl, nl, s, h, gl, nG, sG, lt, hx⟩ := p
  exact s
theorem RowsV.lit {H G H' : Hp} {v : V} {ds : List PyData} (n : New H G) (l : Lit G v (.list ds)) (s : Same H H') (g : Same G H') (hl : ds.length ≤ 1000) : RowsV H ds v H' := by
  cases l with
  | @lst _ a xs _ h r =>
    refine ⟨a, xs, rm G a, rfl, n _ _ h, s, g _ _ h, rm_self, fun b o e => n b o (rm_sub _ _ e), rm_sub.trans g, r, ?_⟩
    rw [r.length]
    exact hl
theorem RowsV.cat {H0 H1 H2 : Hp} {ds es : List PyData} {v u : V} {Q : VK} (p : RowsV H0 ds v H1) (q : RowsV H1 es u H2) (hl : ds.length + es.length ≤ 1000) (k : ∀ w H3, RowsV H0 (ds ++ es) w H3 → Q w H3) : rCat v u H2 Q := by
  obtain ⟨l, xs, G, rfl, nl, s, h, gl, nG, sG, lt, hx⟩ := p
  obtain ⟨a, zs, G2, rfl, na, s2, h2, ga, nG2, sG2, lt2, hz⟩ := q
  have dj : ∀ b o, G2 b = some o → G b = none := fun b o e => sG.free (nG2 b o e)
  refine ⟨l, a, xs, zs, rfl, rfl, s2 _ _ h, h2, Nat.le_trans (Nat.add_le_add hx hz) (by decide), fun c hc => k _ _ ⟨c, xs ++ zs, unH G G2, rfl, s.free (s2.free hc), (s.trans s2).trans (same_new hc), upd_same, ?_, ?_, ?_, (lt.same unH_l).append (lt2.same (unH_r dj)), ?_⟩⟩
  · unfold unH
    rw [sG.free (s2.free hc), sG2.free hc]
    rfl
  · intro b o e
    rcases unH_of e with e | e
    · exact nG _ _ e
    · exact s.free (nG2 _ _ e)
  · intro b o e
    rcases unH_of e with e | e
    · exact same_new hc _ _ (s2 _ _ (sG _ _ e))
    · exact same_new hc _ _ (sG2 _ _ e)
  · rw [List.length_append, lt.length, lt2.length]
    exact hl
def RowsP (H0 : Hp) (ds : List PyData) (σ : L2.St) (H : Hp) : Prop := ∃ v, σ = [some v] ∧ RowsV H0 ds v H
theorem rows_asg {H0 : Hp} {ds : List PyData} {D : Ends} (hl : ds.length ≤ 1000) (k : ∀ σ H, RowsP H0 ds σ H → D.nx σ H) : tAsg (tLit (.list ds)) (gName 0) D [none] H0 := by
  intro v G H' n l s g
  exact k _ _ ⟨v, rfl, .lit n l s g hl⟩
theorem rows_app {K : PySem.W.Frag} {H0 H : Hp} {σ : L2.St} {ds : List PyData} {d : PyData} {D : Ends} (p : RowsP H0 ds σ H) (hl : ds.length < 1000) (k : ∀ σ H, RowsP H0 (ds ++ [d]) σ H → D.nx σ H) : tDrop (tBM K "list" rAppend (tVar 0) (tCons (tLit d) tNil)) D σ H := by
  obtain ⟨_, rfl, l, xs, G, rfl, nl, s, h, gl, nG, sG, lt, hx⟩ := p
  refine ⟨_, rfl, tyV_lst h, ?_⟩
  intro v G2 H2 n2 l2 s2 g2
  have g2l : G2 l = none := by
    cases q : G2 l with
    | none => rfl
    | some o =>
      have := n2 _ _ q
      rw [h] at this
      cases this
  have dj : ∀ a o, G2 a = some o → G a = none := fun a o e => sG.free (n2 a o e)
  refine ⟨l, xs, v, rfl, rfl, s2 _ _ h, Nat.lt_of_le_of_lt hx (by decide), ?_⟩
  refine k _ _ ⟨_, rfl, l, xs ++ [v], unH G G2, rfl, nl, ?_, upd_same, ?_, ?_, ?_, (lt.same unH_l).append (.cons (l2.same (unH_r dj)) .nil), ?_⟩
  · exact fun b o e => by
      rw [upd_ne (ne_of_none e nl)]
      exact s2 _ _ (s _ _ e)
  · unfold unH
    rw [gl, g2l]
    rfl
  · intro b o e
    rcases unH_of e with e | e
    · exact nG _ _ e
    · exact s.free (n2 _ _ e)
  · intro b o e
    rcases unH_of e with e | e
    · rw [upd_ne (ne_of_none e gl)]
      exact s2 _ _ (sG _ _ e)
    · rw [upd_ne (ne_of_none e g2l)]
      exact g2 _ _ e
  · have e1 := lt.length
    rw [List.length_append]
    simp only [List.length_cons, List.length_nil]
    omega
theorem rows_catE {H0 H : Hp} {σ : L2.St} {ds es : List PyData} {Q : VK} (p : RowsP H0 ds σ H) (hl : ds.length + es.length ≤ 1000) (k : ∀ w H3, RowsV H0 (ds ++ es) w H3 → Q w H3) : tOp rCat (tVar 0) (tLit (.list es)) σ H Q := by
  obtain ⟨_, rfl, p⟩ := p
  refine ⟨_, rfl, ?_⟩
  intro v G H' n l s g
  exact p.cat (.lit n l s g (by omega)) hl k
theorem rows_cat {H0 H : Hp} {σ : L2.St} {ds es : List PyData} {D : Ends} (p : RowsP H0 ds σ H) (hl : ds.length + es.length ≤ 1000) (k : ∀ σ H, RowsP H0 (ds ++ es) σ H → D.nx σ H) : tAsg (tOp rCat (tVar 0) (tLit (.list es))) (gName 0) D σ H := by
  refine rows_catE p hl fun w H3 q => ?_
  obtain ⟨_, rfl, _⟩ := p
  exact k _ _ ⟨w, rfl, q⟩
/-- what such a def promises -/
def spRows (ds : List PyData) : Sp := fun vs H Q _ => vs = [] ∧ ∀ v H', RowsV H ds v H' → Q v H'
theorem rows_ret {H0 H : Hp} {σ : L2.St} {ds : List PyData} {D : Ends} (p : RowsP H0 ds σ H) (k : ∀ v H', RowsV H0 ds v H' → D.rt v H') : tRet (tVar 0) D σ H := by
  obtain ⟨v, rfl, p⟩ := p
  exact ⟨_, rfl, k v H p⟩
end Cm
namespace Cm
open PySem PySem.Spec PyProof.Rows L2
/-- the def of the module's name x, called by the name of its one parameter -/
def OkK (P : Program) (w : World) (K : PySem.W.Frag) (mg : Str → Option Value) (base : Heap) (k : Nat) (x p : Str) (sp : Sp) : Prop :=
  ∃ (f : Addr) (fd : FuncData), mg x = some (.ref f) ∧ PySem.W.keepIn K (.ref f) = true ∧ (∀ (s : Shared) (v : Value), BindsTo s fd ⟨[], [(p, v)]⟩ [(p, v)]) ∧ FnOk P w K mg base (L2.CX P w) k f fd [p] sp
theorem Ok.kw {P : Program} {w : World} {K : PySem.W.Frag} {mg : Str → Option Value} {base : Heap} {k : Nat} {x p : Str} {sp : Sp} {st : Stmt} (O : Ok P w K mg base k x [p] sp) (F : At K mg x st)
    (bd : ∀ (kV doc pm : Value) (an : Option Addr) (cdv ct v : Value), bindArgs (PySem.W.fnOf x x (defArgs st) (defBody st) (defScope st) .none kV doc pm an cdv ct) ⟨[], [(p, v)]⟩ = pure [(p, v)]) : OkK P w K mg base k x p sp := by
  obtain ⟨f, fd, h1, h2, h3, h4, oc, od, osl, h5⟩ := O
  obtain ⟨f', fd', F, hm⟩ := F
  have e : f = f' := by
    rw [h1] at hm
    cases hm
    rfl
  subst e
  obtain ⟨oc', od', dV, kV, doc, pm, an, cdv, ct, osl', rfl, lk, hcd, hD, hK⟩ := F.ex
  rw [lk] at h5
  cases h5
  refine ⟨f, _, h1, h2, fun s v => ?_, h4⟩
  rcases hD with ⟨_, rfl⟩ | ⟨e, _⟩
  · exact .of_eq (bd kV doc pm an cdv ct v)
  · exact absurd rfl e
section
variable {X : Cx} {k : Nat} {x q : Str} {sp : Sp} {E : L2.St → XK} {p pos kpos : Pos} {e : Expr} {te : TE}
theorem pck (O : OkK X.prog X.w X.K X.mg X.base k x q sp) (hr : Room k X.A) (hg : Gl X x) (hx : ∀ σ, PassesAt (L2.CX X.prog X.w) X σ (E σ)) (he : PE X e te)
    (hall : (backToKw pos (keywordEach [⟨some q, e, kpos⟩] X.env)).all (·.1.isSome) = true := by rfl) (hks : (backToKw pos (keywordEach [⟨some q, e, kpos⟩] X.env)).filterMap (·.1) = [q] := by rfl) (hdb : (x == ("__debug__" : Str)) = false := by decide)
    (hpl : ((backTo pos (starEach [] X.env)).any (·.1) || (backToKw pos (keywordEach [⟨some q, e, kpos⟩] X.env)).any (·.1.isNone)) = false := by rfl) :
    PE X (.Call (.Name x p) [] [⟨some q, e, kpos⟩] pos) (tCallS sp E (tCons te tNil)) := by
  obtain ⟨f, fd, h1, h2, h3, h4⟩ := O
  refine ⟨fun pins s σ H Q I h => ?_⟩
  refine wpAny_Call_Name_kw (ld_glob I hg h1 ?_ hdb)
  refine PySem.W.callWith_KW0 (h₀ := X.base) I.ok.mod.kin h2 hall ?_ hpl
  have pk : PK X [⟨some q, e, kpos⟩] (tCons te tNil) := pk_cons he pk_nil
  refine thn (pk.run pos pins s σ H _ I h) fun ws s2 ⟨zs, H2, I2, rz, q2⟩ => ⟨I2.kIn, ?_⟩
  rw [hks]
  have hl : zs.length = 1 := h4.len _ _ _ _ q2
  cases rz with
  | nil => simp at hl
  | @cons a u l us ra rr =>
    cases rr with
    | cons _ _ => simp at hl
    | nil =>
      show wpAny _ _ (call (.ref f) [] [(q, u)]) _ _ _
      refine wpAny_call (codeAny_mono (h4.run X.A X.stack s2 H2 ⟨[], [(q, u)]⟩ [u] [a] Q (E σ) hr I2.env0 (h3 s2 u) (.cons ra .nil) q2) fun r s' hq => ?_)
      cases r with
      | error e => exact hx σ pins H2 s2 e s' I2 hq
      | ok fl =>
        cases fl with
        | ret u => exact I2.after hq
        | next => exact False.elim hq
        | brk => exact False.elim hq
        | cont => exact False.elim hq
/-- positional, where what is raised is wished for at the slots -/
theorem pcS {es : List Expr} {ps : List Str} {t : TA} (O : Ok X.prog X.w X.K X.mg X.base k x ps sp) (hr : Room k X.A) (hg : Gl X x) (hx : ∀ σ, PassesAt (L2.CX X.prog X.w) X σ (E σ)) (ha : PA X (e :: es) t)
    (hdb : (x == ("__debug__" : Str)) = false := by decide) (he : starEach (e :: es) X.env = (false, eval e X.env) :: starEach es X.env := by rfl) (hpl : (backTo pos (starEach es X.env)).any (·.1) = false := by rfl) :
    PE X (.Call (.Name x p) (e :: es) [] pos) (tCallS sp E t) := by
  obtain ⟨f, fd, h1, h2, h3, h4, h5⟩ := O
  exact pe_callS h4 hr hg h1 h2 h3 hx ha hdb he hpl
end
theorem call_intI {X : Cx} : CallR X (.type "int") (fun xs H Q => ∃ i, xs = [.int i] ∧ Q (.int i) H) := fun pins s σ H xs us Q I r h => call_int1 pins s σ H xs us Q I r (.inl h)
theorem cutV_to {xs : List V} (n : Nat) : cutV xs none (some (n : Int)) = xs.take n := by
  unfold cutV
  rw [HT.sIx_none, HT.sIx_nat, List.drop_zero, Nat.sub_zero]
  by_cases h : n ≤ xs.length
  · rw [Nat.min_eq_left h]
  · rw [Nat.min_eq_right (by omega), List.take_of_length_le (Nat.le_refl _), List.take_of_length_le (by omega)]
theorem fmod_nn {a b : Int} (h : 0 < b) : 0 ≤ a.fmod b := by rw [Int.fmod_eq_emod_of_nonneg a (by omega)]; exact Int.emod_nonneg _ (by omega)
theorem fmod_ub {a b : Int} (h : 0 < b) : a.fmod b < b := by rw [Int.fmod_eq_emod_of_nonneg a (by omega)]; exact Int.emod_lt_of_pos _ h
/-- a written tuple, one token out -/
theorem pet_tup {X : Cx} {es : List Expr} {ta : TA} {x1} {pos : Pos} (h : PAT X es ta) : PET X (.Tuple es x1 pos) (tTup ta) := by
  intro pins s σ H Q h0 I hq
  refine wpAny_Tuple_spliced (thn (h pos pins s σ H _ h0 I hq) fun us s1 ⟨xs, H1, I1, r, z, q⟩ => ⟨by rw [← r.length]; exact z, ?_⟩)
  have hn : H1 s1.heap.objs.size = none := I1.hok.fresh (Nat.le_refl _)
  refine ⟨.ref s1.heap.objs.size, upd H1 s1.heap.objs.size (.tup xs), I1.laid (t' := s1.toks) (fun b u e => Heap.get?_push_of_some _ e) (Nat.le_refl _) ?_, rfl, q _ hn⟩
  exact ⟨z, us, r, ⟨_, Heap.get?_push_size _ rfl, rfl, _, rfl⟩⟩
end Cm
namespace W
open PySem PySem.Spec PyProof.Rows L2 Cm Lx
def topS (i : Nat) : Stmt := PySem.Challenge.pw_imagetalk_k01_words_put_together.main.body.getD i (.Pass ⟨0, 0, 0, 0⟩)
abbrev s_run_end : Stmt := topS 16
theorem sc_run_end : FnScope ["text", "at", "signs"] ["text", "at", "signs"] (defScope s_run_end) := ⟨rfl, rfl, rfl, by decide +kernel, rfl, by decide +kernel, by decide +kernel⟩
abbrev s_name_end : Stmt := topS 17
theorem sc_name_end : FnScope ["text", "at", "end"] ["text", "at"] (defScope s_name_end) := ⟨rfl, rfl, rfl, by decide +kernel, rfl, by decide +kernel, by decide +kernel⟩
abbrev s_keyword_end : Stmt := topS 18
theorem sc_keyword_end : FnScope ["text", "at", "end"] ["text", "at"] (defScope s_keyword_end) := ⟨rfl, rfl, rfl, by decide +kernel, rfl, by decide +kernel, by decide +kernel⟩
abbrev s_keywords_end : Stmt := topS 19
theorem sc_keywords_end : FnScope ["text", "at", "end"] ["text", "at"] (defScope s_keywords_end) := ⟨rfl, rfl, rfl, by decide +kernel, rfl, by decide +kernel, by decide +kernel⟩
abbrev s_string_end : Stmt := topS 20
theorem sc_string_end : FnScope ["text", "at", "end"] ["text", "at"] (defScope s_string_end) := ⟨rfl, rfl, rfl, by decide +kernel, rfl, by decide +kernel, by decide +kernel⟩
abbrev s_string_of : Stmt := topS 21
theorem sc_string_of : FnScope ["text"] ["text"] (defScope s_string_of) := ⟨rfl, rfl, rfl, by decide +kernel, rfl, by decide +kernel, by decide +kernel⟩
abbrev s_first_of : Stmt := topS 22
theorem sc_first_of : FnScope ["choices", "text", "at", "word"] ["choices", "text", "at"] (defScope s_first_of) := ⟨rfl, rfl, rfl, by decide +kernel, rfl, by decide +kernel, by decide +kernel⟩
abbrev s_symbol_end : Stmt := topS 23
theorem sc_symbol_end : FnScope ["text", "at", "start", "end"] ["text", "at"] (defScope s_symbol_end) := ⟨rfl, rfl, rfl, by decide +kernel, rfl, by decide +kernel, by decide +kernel⟩
abbrev s_symbol_word : Stmt := topS 24
theorem sc_symbol_word : FnScope ["text", "at", "end", "value"] ["text", "at"] (defScope s_symbol_word) := ⟨rfl, rfl, rfl, by decide +kernel, rfl, by decide +kernel, by decide +kernel⟩
abbrev s_name_word : Stmt := topS 25
theorem sc_name_word : FnScope ["text", "at", "end"] ["text", "at"] (defScope s_name_word) := ⟨rfl, rfl, rfl, by decide +kernel, rfl, by decide +kernel, by decide +kernel⟩
abbrev s_string_word : Stmt := topS 26
theorem sc_string_word : FnScope ["text", "at", "end"] ["text", "at"] (defScope s_string_word) := ⟨rfl, rfl, rfl, by decide +kernel, rfl, by decide +kernel, by decide +kernel⟩
abbrev s_integer_end : Stmt := topS 27
theorem sc_integer_end : FnScope ["text", "at", "negative", "start", "end"] ["text", "at", "negative"] (defScope s_integer_end) := ⟨rfl, rfl, rfl, by decide +kernel, rfl, by decide +kernel, by decide +kernel⟩
abbrev s_sign_word : Stmt := topS 28
theorem sc_sign_word : FnScope ["text", "at", "word"] ["text", "at"] (defScope s_sign_word) := ⟨rfl, rfl, rfl, by decide +kernel, rfl, by decide +kernel, by decide +kernel⟩
abbrev s_word_at : Stmt := topS 29
theorem sc_word_at : FnScope ["text", "at", "negative", "end"] ["text", "at", "negative"] (defScope s_word_at) := ⟨rfl, rfl, rfl, by decide +kernel, rfl, by decide +kernel, by decide +kernel⟩
abbrev s_comment_end : Stmt := topS 30
theorem sc_comment_end : FnScope ["text", "at", "end"] ["text", "at"] (defScope s_comment_end) := ⟨rfl, rfl, rfl, by decide +kernel, rfl, by decide +kernel, by decide +kernel⟩
abbrev s_may_be_negative : Stmt := topS 31
theorem sc_may_be_negative : FnScope ["words", "within", "kind", "value", "place"] ["words", "within"] (defScope s_may_be_negative) := ⟨rfl, rfl, rfl, by decide +kernel, rfl, by decide +kernel, by decide +kernel⟩
abbrev s_note_sign : Stmt := topS 32
theorem sc_note_sign : FnScope ["within", "kind", "value"] ["within", "kind", "value"] (defScope s_note_sign) := ⟨rfl, rfl, rfl, by decide +kernel, rfl, by decide +kernel, by decide +kernel⟩
abbrev s_words_in : Stmt := topS 33
theorem sc_words_in : FnScope ["text", "words", "within", "at", "kind", "value", "end"] ["text"] (defScope s_words_in) := ⟨rfl, rfl, rfl, by decide +kernel, rfl, by decide +kernel, by decide +kernel⟩
abbrev s_words_of : Stmt := topS 34
theorem sc_words_of : FnScope ["source"] ["source"] (defScope s_words_of) := ⟨rfl, rfl, rfl, by decide +kernel, rfl, by decide +kernel, by decide +kernel⟩
abbrev s_is_written : Stmt := topS 8
theorem sc_is_written : FnScope ["thing", "sign"] ["thing"] (defScope s_is_written) := ⟨rfl, rfl, rfl, by decide +kernel, rfl, by decide +kernel, by decide +kernel⟩
structure Md (P : Program) (w : World) (K : PySem.W.Frag) (mg : Str → Option Value) (base : Heap) (CB : Addr) : Prop where
  a_run_end : At K mg "run_end" s_run_end
  a_name_end : At K mg "name_end" s_name_end
  a_keyword_end : At K mg "keyword_end" s_keyword_end
  a_keywords_end : At K mg "keywords_end" s_keywords_end
  a_string_end : At K mg "string_end" s_string_end
  a_string_of : At K mg "string_of" s_string_of
  a_first_of : At K mg "first_of" s_first_of
  a_symbol_end : At K mg "symbol_end" s_symbol_end
  a_symbol_word : At K mg "symbol_word" s_symbol_word
  a_name_word : At K mg "name_word" s_name_word
  a_string_word : At K mg "string_word" s_string_word
  a_integer_end : At K mg "integer_end" s_integer_end
  a_sign_word : At K mg "sign_word" s_sign_word
  a_word_at : At K mg "word_at" s_word_at
  a_comment_end : At K mg "comment_end" s_comment_end
  a_may_be_negative : At K mg "may_be_negative" s_may_be_negative
  a_note_sign : At K mg "note_sign" s_note_sign
  a_words_in : At K mg "words_in" s_words_in
  a_words_of : At K mg "words_of" s_words_of
  a_is_written : At K mg "is_written" s_is_written
  g_len : mg "len" = none
  g_max : mg "max" = none
  g_int : mg "int" = none
  g_all : mg "all" = none
  g_isinstance : mg "isinstance" = none
  g_str : mg "str" = none
  g_range : mg "range" = none
  g_zip : mg "zip" = none
  g_min : mg "min" = none
  g_sum : mg "sum" = none
  g_tuple : mg "tuple" = none
  c_MOST_NAME : GInt mg "MOST_NAME" 40
  c_LETTERS : GStr mg "LETTERS" kLETTERS
  c_DIGITS : GStr mg "DIGITS" kDIGITS
  c_NAME_SIGNS : GStr mg "NAME_SIGNS" kNAME_SIGNS
  c_MOST_SIGNS : GInt mg "MOST_SIGNS" 2000
  c_MOST_DIGITS : GInt mg "MOST_DIGITS" 60
  c_OPERATORS_FIRST : GTup K mg "OPERATORS_FIRST" (kOPERATORS_FIRST.map S)
  c_SIGNS_FIRST : GTup K mg "SIGNS_FIRST" (kSIGNS_FIRST.map S)
  c_ENDS : GTup K mg "ENDS" (kENDS.map S)
  c_CLOSING : GTup K mg "CLOSING" (kCLOSING.map S)
  x_BadSource : Err1 P w K mg base "BadSource" "place" CB
/-! ### the promises -/
abbrev BT (t : List Nat) : Prop := t.length ≤ 100000
def spRunEnd : Sp := fun vs H Q _ => ∃ (t sg : List Nat) (a : Nat), vs = [S t, .int a, S sg] ∧ BT t ∧ Q (.int (a + runLen sg (t.drop a) : Nat)) H
def spTA (f : List Nat → Nat) : Sp := fun vs H Q _ => ∃ (t : List Nat) (a : Nat), vs = [S t, .int a] ∧ BT t ∧ a ≤ t.length ∧ Q (.int (a + f (t.drop a) : Nat)) H
def oN (a : Nat) : Option Nat → Int
  | some n => ((a + n : Nat) : Int)
  | none => -1
def spStrEnd : Sp := fun vs H Q _ => ∃ (t : List Nat) (a : Nat), vs = [S t, .int a] ∧ BT t ∧ a ≤ t.length ∧ Q (.int (oN a (strLen (t.drop a)))) H
def spSymEnd : Sp := fun vs H Q _ => ∃ (t : List Nat) (a : Nat), vs = [S t, .int a] ∧ BT t ∧ a < t.length ∧ Q (.int (oN a (symLen (t.drop a)))) H
def spStrOf : Sp := fun vs H Q _ => ∃ (t : List Nat), vs = [S t] ∧ BT t ∧ Q (S (unq t)) H
def spFirst (K : PySem.W.Frag) : Sp := fun vs H Q _ => ∃ (c : Addr) (cs : List (List Nat)) (t : List Nat) (a : Nat), vs = [.ref c, S t, .int a] ∧ SqT K H c (cs.map S) ∧ BT t ∧ a ≤ t.length ∧ Q (S (firstOf cs (t.drop a))) H
def WR (CB : Addr) (a : Nat) (H : Hp) (Q : VK) (E : XK) : Option Lx.Tok → Prop
  | some (k, v, n) => ∀ p H', Same H H' → H p = none → H' p = some (.tup [S k, v, .int ((a + n : Nat) : Int)]) → Q (.ref p) H'
  | none => ∀ d H', Same H H' → H d = none → H' d = some (.xd [("place", .int (a : Int))]) → E (.ref CB) (some d) H'
def spWord (CB : Addr) (f : List Nat → Option Lx.Tok) : Sp := fun vs H Q E => ∃ (t : List Nat) (a : Nat), vs = [S t, .int a] ∧ BT t ∧ a < t.length ∧ WR CB a H Q E (f (t.drop a))
def spIntEnd : Sp := fun vs H Q _ => ∃ (t : List Nat) (a : Nat) (neg : Bool), vs = [S t, .int a, .bl neg] ∧ BT t ∧ a < t.length ∧ Q (.int (a + intLen (t.drop a) neg : Nat)) H
def spWordAt (CB : Addr) : Sp := fun vs H Q E => ∃ (t : List Nat) (a : Nat) (neg : Bool), vs = [S t, .int a, .bl neg] ∧ BT t ∧ a < t.length ∧ WR CB a H Q E (wordAt (t.drop a) neg)
def spComment (CB : Addr) : Sp := fun vs H Q E => ∃ (t : List Nat) (a : Nat), vs = [S t, .int a] ∧ BT t ∧ a < t.length ∧ (match commentLen (t.drop a) with
  | some n => Q (.int (a + n : Nat)) H
  | none => ∀ d H', Same H H' → H d = none → H' d = some (.xd [("place", .int (a : Int))]) → E (.ref CB) (some d) H')
theorem headD_drop {t : List Nat} {a : Nat} (h : a < t.length) : (t.drop a).headD 0 = t[a] := by
  rw [List.drop_eq_getElem_cons h]
  rfl
def fnd (t : List Nat) (b : Nat) : Int := match Tx.findFrom t 39 b with
  | some k => (k : Int)
  | none => -1
theorem q_int {Q : VK} {H : Hp} {i j : Int} (k : Q (.int i) H) (e : i = j) : Q (.int j) H := e ▸ k
section
variable {P : Program} {w : World} {K : PySem.W.Frag} {mg : Str → Option Value} {base : Heap} {CB : Addr}
theorem ok_run_end (M : Md P w K mg base CB) : Ok P w K mg base 1 "run_end" ["text", "at", "signs"] spRunEnd := by
  refine mk M.a_run_end sc_run_end (fun _ _ _ _ _ _ us hl => match us, hl with | [_, _, _], _ => rfl) (fun vs H Q E h => ?_) (fun f cdv A outer s H vs Q E hr h => ?_)
  · obtain ⟨t, sg, a, rfl, _⟩ := h
    rfl
  · obtain ⟨t, sg, a, rfl, ht, k⟩ := h
    have hz := szl ht
    refine ⟨_, (pss_cons (ps_while (passes_of rfl) (PW.pt (pw_and (pt_cmpR op_lt (pv 1) (pe_callB call_len_str (by rfl) M.g_len PySem.boot_len (pa_cons (pv 0) pa_nil)) (nomark _)) (pw_and1 (pt_cmpR op_in_sign (pe_ix ix_str (pv 0) (pv 1) (fun _ _ => rfl)) (pv 2) (by rfl))))) (pss_one (ps_aug (i := 1) sc_run_end.nd rfl (.inl rfl) pe_int ip_add)))
      (pss_one (ps_ret (pv 1)))), ?_⟩
    show tSeq (tWhile _ _) _ _ [some (S t), some (.int a), some (S sg)] H
    refine ⟨fun m σ H' => ∃ b : Nat, σ = [some (S t), some (.int b), some (S sg)] ∧ H' = H ∧ b + runLen sg (t.drop b) = a + runLen sg (t.drop a) ∧ m = t.length - b, ⟨_, a, rfl, rfl, rfl, rfl⟩, ?_⟩
    rintro m σ H' ⟨b, rfl, rfl, hb, rfl⟩
    simp only [L2.tSeq, L2.tRet, L2.tVar, L2.tAnd, L2.tOr, L2.tNot, L2.tTest, L2.tOp, L2.tUn, L2.rU, L2.tCB, L2.tCons, L2.tNil, L2.rIxS, L2.rI0, L2.rI, L2.rEq, L2.rNe, L2.tAug, L2.ipI, L2.tC, L2.tIfS, L2.tIf, L2.tCall, L2.tAsg, L2.gName, L2.tSl, L2.rSlS, L2.tPart, L2.tNoPart, L2.tBM, L2.tBM0, L2.tB, L2.tAndV, L2.tOrV, L2.tNotV, L2.tDrop, L2.tNext, L2.tChain, L2.tPar, L2.tPar3, Cm.tErr, Cm.tGT, L2.tTup, L2.tLst,
  List.getElem?_cons_zero, List.getElem?_cons_succ, Option.some.injEq, exists_eq_left', exists_eq_left, exists_eq', exists_eq, exists_and_left, exists_and_right, exists_const, List.cons.injEq, and_true, true_and, L2.V.str.injEq, L2.V.int.injEq, L2.V.bl.injEq, L2.V.ref.injEq, PySem.Str.mk.injEq, Tx.arr1, Tx.str_len, Tx.at_nat, Tx.cut_nat, Tx.find_one,
  and_assoc, Int.ofNat_inj, Nat.add_sub_cancel_left, Lx.take1_eq, decide_eq_true_eq, Bool.not_eq_true', decide_eq_false_iff_not, Int.ofNat_lt, Int.ofNat_le, Bool.false_eq_true, if_false, if_true, List.set_cons_zero, List.set_cons_succ, List.append_nil, List.nil_append, ↓reduceIte, Cm.nat_succ, Cm.nat_add, Cm.nat_two, List.toList_toArray, not_true, not_false_iff, Cm.toArr_inj, Cm.two_one, Cm.tyV_str, Cm.scal_ss, Cm.scal_ii, Cm.scal_bb, Cm.cb_K, reduceCtorEq, false_and, exists_false, or_false, false_or, List.map_cons, List.map_nil, hz]
    split
    · rename_i hlt
      refine ⟨_, List.getElem?_eq_getElem hlt, ?_⟩
      rw [List.drop_eq_getElem_cons hlt, runLen_cons] at hb
      split
      · rename_i hx
        refine ⟨_, fun _ _ z => z, t.length - (b + 1), by omega, b + 1, rfl, rfl, ?_, rfl⟩
        rw [if_pos hx] at hb
        omega
      · rename_i hx
        rw [if_neg hx] at hb
        exact q_int k (by omega)
    · rename_i hlt
      rw [List.drop_eq_nil_of_le (by omega), runLen_nil] at hb
      exact q_int k (by omega)
theorem ok_name_end (M : Md P w K mg base CB) : Ok P w K mg base 2 "name_end" ["text", "at"] (spTA nameLen) := by
  refine mk M.a_name_end sc_name_end (fun _ _ _ _ _ _ us hl => match us, hl with | [_, _], _ => rfl) (fun vs H Q E h => ?_) (fun f cdv A outer s H vs Q E hr h => ?_)
  · obtain ⟨t, a, rfl, _⟩ := h
    rfl
  · obtain ⟨t, a, rfl, ht, ha, k⟩ := h
    have hz := szl ht
    refine ⟨_, (pss_cons (ps_if (PW.pt (pw_or (pt_cmpR op_eq (pv 1) (pe_callB call_len_str (by rfl) M.g_len PySem.boot_len (pa_cons (pv 0) pa_nil)) (nomark _)) (pw_or1 (pt_cmpR op_notIn_sign (pe_ix ix_str (pv 0) (pv 1) (fun _ _ => rfl)) (pn_str (by rfl) M.c_LETTERS) (by rfl))))) (pss_one (ps_ret (pv 1))) pss_nil)
      (pss_cons (ps_asg (pc (ok_run_end M) (hr.mono (by decide)) (by rfl) psb (pa_cons (pv 0) (pa_cons (pv 1) (pa_cons (pn_str (by rfl) M.c_NAME_SIGNS) pa_nil)))) (pg_name (i := 2) sc_name_end.nd rfl (.inl rfl)))
      (pss_one (ps_ret (pe_ifExp (pt_cmpR op_le (pe_op op_sub (pv 2) (pv 1)) (pn_int (by rfl) M.c_MOST_NAME) (nomark _)) (pv 2) (pv 1)))))), ?_⟩
    show tSeq _ _ _ [some (S t), some (.int a), none] H
    simp only [L2.tSeq, L2.tRet, L2.tVar, L2.tAnd, L2.tOr, L2.tNot, L2.tTest, L2.tOp, L2.tUn, L2.rU, L2.tCB, L2.tCons, L2.tNil, L2.rIxS, L2.rI0, L2.rI, L2.rEq, L2.rNe, L2.tAug, L2.ipI, L2.tC, L2.tIfS, L2.tIf, L2.tCall, L2.tAsg, L2.gName, L2.tSl, L2.rSlS, L2.tPart, L2.tNoPart, L2.tBM, L2.tBM0, L2.tB, L2.tAndV, L2.tOrV, L2.tNotV, L2.tDrop, L2.tNext, L2.tChain, L2.tPar, L2.tPar3, Cm.tErr, Cm.tGT, L2.tTup, L2.tLst,
  List.getElem?_cons_zero, List.getElem?_cons_succ, Option.some.injEq, exists_eq_left', exists_eq_left, exists_eq', exists_eq, exists_and_left, exists_and_right, exists_const, List.cons.injEq, and_true, true_and, L2.V.str.injEq, L2.V.int.injEq, L2.V.bl.injEq, L2.V.ref.injEq, PySem.Str.mk.injEq, Tx.arr1, Tx.str_len, Tx.at_nat, Tx.cut_nat, Tx.find_one,
  and_assoc, Int.ofNat_inj, Nat.add_sub_cancel_left, Lx.take1_eq, decide_eq_true_eq, Bool.not_eq_true', decide_eq_false_iff_not, Int.ofNat_lt, Int.ofNat_le, Bool.false_eq_true, if_false, if_true, List.set_cons_zero, List.set_cons_succ, List.append_nil, List.nil_append, ↓reduceIte, Cm.nat_succ, Cm.nat_add, Cm.nat_two, List.toList_toArray, not_true, not_false_iff, Cm.toArr_inj, Cm.two_one, Cm.tyV_str, Cm.scal_ss, Cm.scal_ii, Cm.scal_bb, Cm.cb_K, reduceCtorEq, false_and, exists_false, or_false, false_or, List.map_cons, List.map_nil, hz, spRunEnd, ht]
    unfold nameLen at k
    split
    · rename_i e
      rw [List.drop_eq_nil_of_le (by omega)] at k
      exact q_int k (by simp [kLETTERS])
    · rename_i e
      have hlt : a < t.length := by omega
      refine ⟨_, List.getElem?_eq_getElem hlt, ?_⟩
      rw [headD_drop hlt] at k
      split
      · rename_i hx
        rw [if_neg hx] at k
        exact k
      · rename_i hx
        rw [if_pos (Classical.not_not.mp hx)] at k
        split
        · rename_i h2
          rw [if_pos (by omega)] at k
          exact k
        · rename_i h2
          rw [if_neg (by omega)] at k
          exact k
theorem ok_keyword_end (M : Md P w K mg base CB) : Ok P w K mg base 3 "keyword_end" ["text", "at"] (spTA kwLen) := by
  refine mk M.a_keyword_end sc_keyword_end (fun _ _ _ _ _ _ us hl => match us, hl with | [_, _], _ => rfl) (fun vs H Q E h => ?_) (fun f cdv A outer s H vs Q E hr h => ?_)
  · obtain ⟨t, a, rfl, _⟩ := h
    rfl
  · obtain ⟨t, a, rfl, ht, ha, k⟩ := h
    have hz := szl ht
    refine ⟨_, (pss_cons (ps_asg (pc (ok_name_end M) (hr.mono (by decide)) (by rfl) psb (pa_cons (pv 0) (pa_cons (pv 1) pa_nil))) (pg_name (i := 2) sc_keyword_end.nd rfl (.inl rfl)))
      (pss_cons (ps_if (PW.pt (pw_and (pt_cmpR op_gt (pv 2) (pv 1) (nomark _)) (pw_and (pt_cmpR op_eq (pe_slice sl_str (pv 0) (po_some (pv 2)) (po_some (pe_op op_add (pv 2) pe_int))) (pe_strL [58]) (nomark _)) (pw_and1 (pt_cmpR op_ne (pe_slice sl_str (pv 0) (po_some (pe_op op_add (pv 2) pe_int)) (po_some (pe_op op_add (pv 2) pe_int))) (pe_strL [61]) (nomark _)))))) (pss_one (ps_ret (pe_op op_add (pv 2) pe_int))) pss_nil)
      (pss_one (ps_ret (pv 1))))), ?_⟩
    show tSeq _ _ _ [some (S t), some (.int a), none] H
    simp only [L2.tSeq, L2.tRet, L2.tVar, L2.tAnd, L2.tOr, L2.tNot, L2.tTest, L2.tOp, L2.tUn, L2.rU, L2.tCB, L2.tCons, L2.tNil, L2.rIxS, L2.rI0, L2.rI, L2.rEq, L2.rNe, L2.tAug, L2.ipI, L2.tC, L2.tIfS, L2.tIf, L2.tCall, L2.tAsg, L2.gName, L2.tSl, L2.rSlS, L2.tPart, L2.tNoPart, L2.tBM, L2.tBM0, L2.tB, L2.tAndV, L2.tOrV, L2.tNotV, L2.tDrop, L2.tNext, L2.tChain, L2.tPar, L2.tPar3, Cm.tErr, Cm.tGT, L2.tTup, L2.tLst,
  List.getElem?_cons_zero, List.getElem?_cons_succ, Option.some.injEq, exists_eq_left', exists_eq_left, exists_eq', exists_eq, exists_and_left, exists_and_right, exists_const, List.cons.injEq, and_true, true_and, L2.V.str.injEq, L2.V.int.injEq, L2.V.bl.injEq, L2.V.ref.injEq, PySem.Str.mk.injEq, Tx.arr1, Tx.str_len, Tx.at_nat, Tx.cut_nat, Tx.find_one,
  and_assoc, Int.ofNat_inj, Nat.add_sub_cancel_left, Lx.take1_eq, decide_eq_true_eq, Bool.not_eq_true', decide_eq_false_iff_not, Int.ofNat_lt, Int.ofNat_le, Bool.false_eq_true, if_false, if_true, List.set_cons_zero, List.set_cons_succ, List.append_nil, List.nil_append, ↓reduceIte, Cm.nat_succ, Cm.nat_add, Cm.nat_two, List.toList_toArray, not_true, not_false_iff, Cm.toArr_inj, Cm.two_one, Cm.tyV_str, Cm.scal_ss, Cm.scal_ii, Cm.scal_bb, Cm.cb_K, reduceCtorEq, false_and, exists_false, or_false, false_or, List.map_cons, List.map_nil, hz, spTA, ht, ha]
    unfold kwLen at k
    rw [List.getElem?_drop, List.getElem?_drop, ← Nat.add_assoc] at k
    split
    · rename_i h1
      split
      · rename_i h2
        split
        · rename_i h3
          rw [if_pos ⟨by omega, h2, h3⟩] at k
          exact q_int k (by omega)
        · rename_i h3
          rw [if_neg (fun z => h3 z.2.2)] at k
          exact k
      · rename_i h2
        rw [if_neg (fun z => h2 z.2.1)] at k
        exact k
    · rename_i h1
      rw [if_neg (fun z => h1 (by omega))] at k
      exact k
theorem ok_keywords_end (M : Md P w K mg base CB) : Ok P w K mg base 4 "keywords_end" ["text", "at"] (spTA kwsLen) := by
  refine mk M.a_keywords_end sc_keywords_end (fun _ _ _ _ _ _ us hl => match us, hl with | [_, _], _ => rfl) (fun vs H Q E h => ?_) (fun f cdv A outer s H vs Q E hr h => ?_)
  · obtain ⟨t, a, rfl, _⟩ := h
    rfl
  · obtain ⟨t, a, rfl, ht, ha, k⟩ := h
    have hz := szl ht
    refine ⟨_, (pss_cons (ps_asg (pc (ok_keyword_end M) (hr.mono (by decide)) (by rfl) psb (pa_cons (pv 0) (pa_cons (pv 1) pa_nil))) (pg_name (i := 2) sc_keywords_end.nd rfl (.inl rfl)))
      (pss_cons (ps_while (passes_of rfl) (pt_cmpR op_gt (pv 2) (pv 1) (nomark _)) (pss_cons (ps_asg (pv 2) (pg_name (i := 1) sc_keywords_end.nd rfl (.inl rfl)))
      (pss_one (ps_asg (pc (ok_keyword_end M) (hr.mono (by decide)) (by rfl) psb (pa_cons (pv 0) (pa_cons (pv 1) pa_nil))) (pg_name (i := 2) sc_keywords_end.nd rfl (.inl rfl))))))
      (pss_one (ps_ret (pv 1))))), ?_⟩
    show tSeq _ _ _ [some (S t), some (.int a), none] H
    simp only [L2.tSeq, L2.tRet, L2.tVar, L2.tAnd, L2.tOr, L2.tNot, L2.tTest, L2.tOp, L2.tUn, L2.rU, L2.tCB, L2.tCons, L2.tNil, L2.rIxS, L2.rI0, L2.rI, L2.rEq, L2.rNe, L2.tAug, L2.ipI, L2.tC, L2.tIfS, L2.tIf, L2.tCall, L2.tAsg, L2.gName, L2.tSl, L2.rSlS, L2.tPart, L2.tNoPart, L2.tBM, L2.tBM0, L2.tB, L2.tAndV, L2.tOrV, L2.tNotV, L2.tDrop, L2.tNext, L2.tChain, L2.tPar, L2.tPar3, Cm.tErr, Cm.tGT, L2.tTup, L2.tLst,
  List.getElem?_cons_zero, List.getElem?_cons_succ, Option.some.injEq, exists_eq_left', exists_eq_left, exists_eq', exists_eq, exists_and_left, exists_and_right, exists_const, List.cons.injEq, and_true, true_and, L2.V.str.injEq, L2.V.int.injEq, L2.V.bl.injEq, L2.V.ref.injEq, PySem.Str.mk.injEq, Tx.arr1, Tx.str_len, Tx.at_nat, Tx.cut_nat, Tx.find_one,
  and_assoc, Int.ofNat_inj, Nat.add_sub_cancel_left, Lx.take1_eq, decide_eq_true_eq, Bool.not_eq_true', decide_eq_false_iff_not, Int.ofNat_lt, Int.ofNat_le, Bool.false_eq_true, if_false, if_true, List.set_cons_zero, List.set_cons_succ, List.append_nil, List.nil_append, ↓reduceIte, Cm.nat_succ, Cm.nat_add, Cm.nat_two, List.toList_toArray, not_true, not_false_iff, Cm.toArr_inj, Cm.two_one, Cm.tyV_str, Cm.scal_ss, Cm.scal_ii, Cm.scal_bb, Cm.cb_K, reduceCtorEq, false_and, exists_false, or_false, false_or, List.map_cons, List.map_nil, hz, spTA, ht, ha]
    refine ⟨fun m σ H' => ∃ b : Nat, σ = [some (S t), some (.int b), some (.int (b + kwLen (t.drop b) : Nat))] ∧ H' = H ∧ b ≤ t.length ∧ b + kwsLen (t.drop b) = a + kwsLen (t.drop a) ∧ m = t.length - b, ⟨_, a, rfl, rfl, ha, rfl, rfl⟩, ?_⟩
    rintro m σ H' ⟨b, rfl, rfl, hb1, hb, rfl⟩
    have hle := kwLen_le (t.drop b)
    rw [List.length_drop] at hle
    simp only [L2.tSeq, L2.tRet, L2.tVar, L2.tAnd, L2.tOr, L2.tNot, L2.tTest, L2.tOp, L2.tUn, L2.rU, L2.tCB, L2.tCons, L2.tNil, L2.rIxS, L2.rI0, L2.rI, L2.rEq, L2.rNe, L2.tAug, L2.ipI, L2.tC, L2.tIfS, L2.tIf, L2.tCall, L2.tAsg, L2.gName, L2.tSl, L2.rSlS, L2.tPart, L2.tNoPart, L2.tBM, L2.tBM0, L2.tB, L2.tAndV, L2.tOrV, L2.tNotV, L2.tDrop, L2.tNext, L2.tChain, L2.tPar, L2.tPar3, Cm.tErr, Cm.tGT, L2.tTup, L2.tLst,
  List.getElem?_cons_zero, List.getElem?_cons_succ, Option.some.injEq, exists_eq_left', exists_eq_left, exists_eq', exists_eq, exists_and_left, exists_and_right, exists_const, List.cons.injEq, and_true, true_and, L2.V.str.injEq, L2.V.int.injEq, L2.V.bl.injEq, L2.V.ref.injEq, PySem.Str.mk.injEq, Tx.arr1, Tx.str_len, Tx.at_nat, Tx.cut_nat, Tx.find_one,
  and_assoc, Int.ofNat_inj, Nat.add_sub_cancel_left, Lx.take1_eq, decide_eq_true_eq, Bool.not_eq_true', decide_eq_false_iff_not, Int.ofNat_lt, Int.ofNat_le, Bool.false_eq_true, if_false, if_true, List.set_cons_zero, List.set_cons_succ, List.append_nil, List.nil_append, ↓reduceIte, Cm.nat_succ, Cm.nat_add, Cm.nat_two, List.toList_toArray, not_true, not_false_iff, Cm.toArr_inj, Cm.two_one, Cm.tyV_str, Cm.scal_ss, Cm.scal_ii, Cm.scal_bb, Cm.cb_K, reduceCtorEq, false_and, exists_false, or_false, false_or, List.map_cons, List.map_nil, hz, spTA, ht]
    split
    · rename_i h1
      have h1' : 0 < kwLen (t.drop b) := by omega
      refine ⟨_, fun _ _ z => z, by omega, t.length - (b + kwLen (t.drop b)), by omega, b + kwLen (t.drop b), rfl, rfl, by omega, ?_, rfl⟩
      rw [kwsLen_step h1', List.drop_drop] at hb
      omega
    · rename_i h1
      rw [kwsLen_stop (by omega)] at hb
      exact q_int k (by omega)
theorem ok_string_end (M : Md P w K mg base CB) : Ok P w K mg base 1 "string_end" ["text", "at"] spStrEnd := by
  refine mk M.a_string_end sc_string_end (fun _ _ _ _ _ _ us hl => match us, hl with | [_, _], _ => rfl) (fun vs H Q E h => ?_) (fun f cdv A outer s H vs Q E hr h => ?_)
  · obtain ⟨t, a, rfl, _⟩ := h
    rfl
  · obtain ⟨t, a, rfl, ht, ha, k⟩ := h
    have hz := szl ht
    refine ⟨_, (pss_cons (ps_asg (pe_bm PySem.F.plainAttrs_str PySem.F.slot_str_find PySem.F.type_str_find mt_find3 (pv 0) (pa_cons (pe_strL [39]) (pa_cons (pe_op op_add (pv 1) pe_int) pa_nil))) (pg_name (i := 2) sc_string_end.nd rfl (.inl rfl)))
      (pss_cons (ps_while (passes_of rfl) (PW.pt (pw_and (pt_cmpR op_ge (pv 2) pe_int (nomark _)) (pw_and1 (pt_cmpR op_eq (pe_slice sl_str (pv 0) (po_some (pe_op op_add (pv 2) pe_int)) (po_some (pe_op op_add (pv 2) pe_int))) (pe_strL [39]) (nomark _))))) (pss_one (ps_asg (pe_bm PySem.F.plainAttrs_str PySem.F.slot_str_find PySem.F.type_str_find mt_find3 (pv 0) (pa_cons (pe_strL [39]) (pa_cons (pe_op op_add (pv 2) pe_int) pa_nil))) (pg_name (i := 2) sc_string_end.nd rfl (.inl rfl)))))
      (pss_one (ps_ret (pe_ifExp (pt_cmpR op_ge (pv 2) pe_int (nomark _)) (pe_op op_add (pv 2) pe_int) (pe_un un_neg pe_int)))))), ?_⟩
    show tSeq _ (tSeq (tWhile _ _) _) _ [some (S t), some (.int a), none] H
    simp only [L2.tSeq, L2.tRet, L2.tVar, L2.tAnd, L2.tOr, L2.tNot, L2.tTest, L2.tOp, L2.tUn, L2.rU, L2.tCB, L2.tCons, L2.tNil, L2.rIxS, L2.rI0, L2.rI, L2.rEq, L2.rNe, L2.tAug, L2.ipI, L2.tC, L2.tIfS, L2.tIf, L2.tCall, L2.tAsg, L2.gName, L2.tSl, L2.rSlS, L2.tPart, L2.tNoPart, L2.tBM, L2.tBM0, L2.tB, L2.tAndV, L2.tOrV, L2.tNotV, L2.tDrop, L2.tNext, L2.tChain, L2.tPar, L2.tPar3, Cm.tErr, Cm.tGT, L2.tTup, L2.tLst,
  List.getElem?_cons_zero, List.getElem?_cons_succ, Option.some.injEq, exists_eq_left', exists_eq_left, exists_eq', exists_eq, exists_and_left, exists_and_right, exists_const, List.cons.injEq, and_true, true_and, L2.V.str.injEq, L2.V.int.injEq, L2.V.bl.injEq, L2.V.ref.injEq, PySem.Str.mk.injEq, Tx.arr1, Tx.str_len, Tx.at_nat, Tx.cut_nat, Tx.find_one,
  and_assoc, Int.ofNat_inj, Nat.add_sub_cancel_left, Lx.take1_eq, decide_eq_true_eq, Bool.not_eq_true', decide_eq_false_iff_not, Int.ofNat_lt, Int.ofNat_le, Bool.false_eq_true, if_false, if_true, List.set_cons_zero, List.set_cons_succ, List.append_nil, List.nil_append, ↓reduceIte, Cm.nat_succ, Cm.nat_add, Cm.nat_two, List.toList_toArray, not_true, not_false_iff, Cm.toArr_inj, Cm.two_one, Cm.tyV_str, Cm.scal_ss, Cm.scal_ii, Cm.scal_bb, Cm.cb_K, reduceCtorEq, false_and, exists_false, or_false, false_or, List.map_cons, List.map_nil, hz]
    refine ⟨fun m σ H' => ∃ b : Nat, σ = [some (S t), some (.int a), some (.int (fnd t b))] ∧ H' = H ∧ tickAt t b = tickAt t (a + 1) ∧ m = t.length + 2 - b, ⟨_, a + 1, ?_, rfl, rfl, rfl⟩, ?_⟩
    · rfl
    rintro m σ H' ⟨b, rfl, rfl, hb, rfl⟩
    rw [tickAt_find t _ b (Nat.le_refl _)] at hb
    unfold fnd
    cases hf : Tx.findFrom t 39 b with
    | none =>
      rw [hf, ← strLen_at] at hb
      have hn : strLen (t.drop a) = none := by
        cases q : strLen (t.drop a) with
        | none => rfl
        | some n => rw [q] at hb; cases hb
      rw [hn] at k
      simp only [L2.tSeq, L2.tRet, L2.tVar, L2.tAnd, L2.tOr, L2.tNot, L2.tTest, L2.tOp, L2.tUn, L2.rU, L2.tCB, L2.tCons, L2.tNil, L2.rIxS, L2.rI0, L2.rI, L2.rEq, L2.rNe, L2.tAug, L2.ipI, L2.tC, L2.tIfS, L2.tIf, L2.tCall, L2.tAsg, L2.gName, L2.tSl, L2.rSlS, L2.tPart, L2.tNoPart, L2.tBM, L2.tBM0, L2.tB, L2.tAndV, L2.tOrV, L2.tNotV, L2.tDrop, L2.tNext, L2.tChain, L2.tPar, L2.tPar3, Cm.tErr, Cm.tGT, L2.tTup, L2.tLst,
  List.getElem?_cons_zero, List.getElem?_cons_succ, Option.some.injEq, exists_eq_left', exists_eq_left, exists_eq', exists_eq, exists_and_left, exists_and_right, exists_const, List.cons.injEq, and_true, true_and, L2.V.str.injEq, L2.V.int.injEq, L2.V.bl.injEq, L2.V.ref.injEq, PySem.Str.mk.injEq, Tx.arr1, Tx.str_len, Tx.at_nat, Tx.cut_nat, Tx.find_one,
  and_assoc, Int.ofNat_inj, Nat.add_sub_cancel_left, Lx.take1_eq, decide_eq_true_eq, Bool.not_eq_true', decide_eq_false_iff_not, Int.ofNat_lt, Int.ofNat_le, Bool.false_eq_true, if_false, if_true, List.set_cons_zero, List.set_cons_succ, List.append_nil, List.nil_append, ↓reduceIte, Cm.nat_succ, Cm.nat_add, Cm.nat_two, List.toList_toArray, not_true, not_false_iff, Cm.toArr_inj, Cm.two_one, Cm.tyV_str, Cm.scal_ss, Cm.scal_ii, Cm.scal_bb, Cm.cb_K, reduceCtorEq, false_and, exists_false, or_false, false_or, List.map_cons, List.map_nil, hz]
      exact k
    | some e =>
      have hfe := find_some hf
      rw [hf] at hb
      simp only [L2.tSeq, L2.tRet, L2.tVar, L2.tAnd, L2.tOr, L2.tNot, L2.tTest, L2.tOp, L2.tUn, L2.rU, L2.tCB, L2.tCons, L2.tNil, L2.rIxS, L2.rI0, L2.rI, L2.rEq, L2.rNe, L2.tAug, L2.ipI, L2.tC, L2.tIfS, L2.tIf, L2.tCall, L2.tAsg, L2.gName, L2.tSl, L2.rSlS, L2.tPart, L2.tNoPart, L2.tBM, L2.tBM0, L2.tB, L2.tAndV, L2.tOrV, L2.tNotV, L2.tDrop, L2.tNext, L2.tChain, L2.tPar, L2.tPar3, Cm.tErr, Cm.tGT, L2.tTup, L2.tLst,
  List.getElem?_cons_zero, List.getElem?_cons_succ, Option.some.injEq, exists_eq_left', exists_eq_left, exists_eq', exists_eq, exists_and_left, exists_and_right, exists_const, List.cons.injEq, and_true, true_and, L2.V.str.injEq, L2.V.int.injEq, L2.V.bl.injEq, L2.V.ref.injEq, PySem.Str.mk.injEq, Tx.arr1, Tx.str_len, Tx.at_nat, Tx.cut_nat, Tx.find_one,
  and_assoc, Int.ofNat_inj, Nat.add_sub_cancel_left, Lx.take1_eq, decide_eq_true_eq, Bool.not_eq_true', decide_eq_false_iff_not, Int.ofNat_lt, Int.ofNat_le, Bool.false_eq_true, if_false, if_true, List.set_cons_zero, List.set_cons_succ, List.append_nil, List.nil_append, ↓reduceIte, Cm.nat_succ, Cm.nat_add, Cm.nat_two, List.toList_toArray, not_true, not_false_iff, Cm.toArr_inj, Cm.two_one, Cm.tyV_str, Cm.scal_ss, Cm.scal_ii, Cm.scal_bb, Cm.cb_K, reduceCtorEq, false_and, exists_false, or_false, false_or, List.map_cons, List.map_nil, hz]
      rw [if_pos (by omega)]
      split
      · rename_i h2
        refine ⟨_, fun _ _ z => z, t.length + 2 - (e + 2), by omega, e + 2, rfl, rfl, ?_, rfl⟩
        rw [← hb]
        exact (if_pos h2).symm
      · rename_i h2
        have hb2 : some (e + 1) = tickAt t (a + 1) := by
          rw [← hb]
          exact (if_neg h2).symm
        rw [← strLen_at] at hb2
        obtain ⟨n, hn, he⟩ := Option.map_eq_some_iff.mp hb2.symm
        rw [hn] at k
        exact q_int k (by show ((a + n : Nat) : Int) = _; omega)
theorem ok_first_of (M : Md P w K mg base CB) : Ok P w K mg base 1 "first_of" ["choices", "text", "at"] (spFirst K) := by
  refine mk M.a_first_of sc_first_of (fun _ _ _ _ _ _ us hl => match us, hl with | [_, _, _], _ => rfl) (fun vs H Q E h => ?_) (fun f cdv A outer s H vs Q E hr h => ?_)
  · obtain ⟨c, cs, t, a, rfl, _⟩ := h
    rfl
  · obtain ⟨c, cs, t, a, rfl, hc, ht, ha, k⟩ := h
    have hz := szl ht
    refine ⟨_, (pss_cons (ps_for (passes_of rfl) rfl (pi_tup (pv 0)) (pg_name (i := 3) sc_first_of.nd rfl (.inl rfl))
      (pss_one (ps_if (pt_val (pe_bm PySem.F.plainAttrs_str PySem.F.slot_str_startswith PySem.F.type_str_startswith mt_startswith3 (pv 1) (pa_cons (pv 3) (pa_cons (pv 2) pa_nil)))) (pss_one (ps_ret (pv 3))) pss_nil)))
      (pss_one (ps_ret (pe_strL [])))), ?_⟩
    show tSeq _ _ _ [some (.ref c), some (S t), some (.int a), none] H
    refine ⟨_, rfl, c, rfl, ⟨_, hc⟩, for_tup (K := K) (a := c) (xs := cs.map S) (fun i σ H' => ∃ v, σ = [some (.ref c), some (S t), some (.int a), v] ∧ H' = H ∧ firstOf (cs.drop i) (t.drop a) = firstOf cs (t.drop a)) ⟨none, rfl, rfl, rfl⟩ ?_ ?_ ?_⟩
    · rintro i σ H' _ ⟨v, _, rfl, _⟩
      exact hc
    · rintro i x σ H' hx ⟨v, rfl, rfl, hf⟩
      rw [List.getElem?_map] at hx
      obtain ⟨wd, hw, rfl⟩ := Option.map_eq_some_iff.mp hx
      obtain ⟨hi, hwi⟩ := List.getElem?_eq_some_iff.mp hw
      rw [List.drop_eq_getElem_cons hi, hwi] at hf
      simp only [L2.tSeq, L2.tRet, L2.tVar, L2.tAnd, L2.tOr, L2.tNot, L2.tTest, L2.tOp, L2.tUn, L2.rU, L2.tCB, L2.tCons, L2.tNil, L2.rIxS, L2.rI0, L2.rI, L2.rEq, L2.rNe, L2.tAug, L2.ipI, L2.tC, L2.tIfS, L2.tIf, L2.tCall, L2.tAsg, L2.gName, L2.tSl, L2.rSlS, L2.tPart, L2.tNoPart, L2.tBM, L2.tBM0, L2.tB, L2.tAndV, L2.tOrV, L2.tNotV, L2.tDrop, L2.tNext, L2.tChain, L2.tPar, L2.tPar3, Cm.tErr, Cm.tGT, L2.tTup, L2.tLst,
  List.getElem?_cons_zero, List.getElem?_cons_succ, Option.some.injEq, exists_eq_left', exists_eq_left, exists_eq', exists_eq, exists_and_left, exists_and_right, exists_const, List.cons.injEq, and_true, true_and, L2.V.str.injEq, L2.V.int.injEq, L2.V.bl.injEq, L2.V.ref.injEq, PySem.Str.mk.injEq, Tx.arr1, Tx.str_len, Tx.at_nat, Tx.cut_nat, Tx.find_one,
  and_assoc, Int.ofNat_inj, Nat.add_sub_cancel_left, Lx.take1_eq, decide_eq_true_eq, Bool.not_eq_true', decide_eq_false_iff_not, Int.ofNat_lt, Int.ofNat_le, Bool.false_eq_true, if_false, if_true, List.set_cons_zero, List.set_cons_succ, List.append_nil, List.nil_append, ↓reduceIte, Cm.nat_succ, Cm.nat_add, Cm.nat_two, List.toList_toArray, not_true, not_false_iff, Cm.toArr_inj, Cm.two_one, Cm.tyV_str, Cm.scal_ss, Cm.scal_ii, Cm.scal_bb, Cm.cb_K, reduceCtorEq, false_and, exists_false, or_false, false_or, List.map_cons, List.map_nil, hz]
      rw [Tx.sw_nat _ _ _ ha]
      unfold firstOf at hf
      rw [List.find?_cons] at hf
      split
      · rename_i hp
        rw [hp] at hf
        unfold firstOf at k
        rw [← hf] at k
        exact k
      · rename_i hp
        have hp' : wd.isPrefixOf (t.drop a) = false := Bool.eq_false_iff.mpr hp
        rw [hp'] at hf
        exact hf
    · rintro σ H' ⟨v, rfl, rfl, hf⟩
      simp only [L2.tSeq, L2.tRet, L2.tVar, L2.tAnd, L2.tOr, L2.tNot, L2.tTest, L2.tOp, L2.tUn, L2.rU, L2.tCB, L2.tCons, L2.tNil, L2.rIxS, L2.rI0, L2.rI, L2.rEq, L2.rNe, L2.tAug, L2.ipI, L2.tC, L2.tIfS, L2.tIf, L2.tCall, L2.tAsg, L2.gName, L2.tSl, L2.rSlS, L2.tPart, L2.tNoPart, L2.tBM, L2.tBM0, L2.tB, L2.tAndV, L2.tOrV, L2.tNotV, L2.tDrop, L2.tNext, L2.tChain, L2.tPar, L2.tPar3, Cm.tErr, Cm.tGT, L2.tTup, L2.tLst,
  List.getElem?_cons_zero, List.getElem?_cons_succ, Option.some.injEq, exists_eq_left', exists_eq_left, exists_eq', exists_eq, exists_and_left, exists_and_right, exists_const, List.cons.injEq, and_true, true_and, L2.V.str.injEq, L2.V.int.injEq, L2.V.bl.injEq, L2.V.ref.injEq, PySem.Str.mk.injEq, Tx.arr1, Tx.str_len, Tx.at_nat, Tx.cut_nat, Tx.find_one,
  and_assoc, Int.ofNat_inj, Nat.add_sub_cancel_left, Lx.take1_eq, decide_eq_true_eq, Bool.not_eq_true', decide_eq_false_iff_not, Int.ofNat_lt, Int.ofNat_le, Bool.false_eq_true, if_false, if_true, List.set_cons_zero, List.set_cons_succ, List.append_nil, List.nil_append, ↓reduceIte, Cm.nat_succ, Cm.nat_add, Cm.nat_two, List.toList_toArray, not_true, not_false_iff, Cm.toArr_inj, Cm.two_one, Cm.tyV_str, Cm.scal_ss, Cm.scal_ii, Cm.scal_bb, Cm.cb_K, reduceCtorEq, false_and, exists_false, or_false, false_or, List.map_cons, List.map_nil, hz]
      rw [List.length_map, List.drop_eq_nil_of_le (Nat.le_refl _)] at hf
      rw [← hf] at k
      exact k
theorem ok_integer_end (M : Md P w K mg base CB) : Ok P w K mg base 2 "integer_end" ["text", "at", "negative"] spIntEnd := by
  refine mk M.a_integer_end sc_integer_end (fun _ _ _ _ _ _ us hl => match us, hl with | [_, _, _], _ => rfl) (fun vs H Q E h => ?_) (fun f cdv A outer s H vs Q E hr h => ?_)
  · obtain ⟨t, a, neg, rfl, _⟩ := h
    rfl
  · obtain ⟨t, a, neg, rfl, ht, ha, k⟩ := h
    have hz := szl ht
    refine ⟨_, (pss_cons (ps_asg (pe_ifExp (PW.pt (pw_and (pt_val (pv 2)) (pw_and1 (pt_cmpR op_eq (pe_ix ix_str (pv 0) (pv 1) (fun _ _ => rfl)) (pe_strL [45]) (nomark _))))) (pe_op op_add (pv 1) pe_int) (pv 1)) (pg_name (i := 3) sc_integer_end.nd rfl (.inl rfl)))
      (pss_cons (ps_asg (pc (ok_run_end M) (hr.mono (by decide)) (by rfl) psb (pa_cons (pv 0) (pa_cons (pv 3) (pa_cons (pn_str (by rfl) M.c_DIGITS) pa_nil)))) (pg_name (i := 4) sc_integer_end.nd rfl (.inl rfl)))
      (pss_one (ps_ret (pe_ifExp (pt_chain op_le op_le pe_int (pe_op op_sub (pv 4) (pv 3)) (pn_int (by rfl) M.c_MOST_DIGITS)) (pv 4) (pv 1)))))), ?_⟩
    show tSeq _ _ _ [some (S t), some (.int a), some (.bl neg), none, none] H
    simp only [L2.tSeq, L2.tRet, L2.tVar, L2.tAnd, L2.tOr, L2.tNot, L2.tTest, L2.tOp, L2.tUn, L2.rU, L2.tCB, L2.tCons, L2.tNil, L2.rIxS, L2.rI0, L2.rI, L2.rEq, L2.rNe, L2.tAug, L2.ipI, L2.tC, L2.tIfS, L2.tIf, L2.tCall, L2.tAsg, L2.gName, L2.tSl, L2.rSlS, L2.tPart, L2.tNoPart, L2.tBM, L2.tBM0, L2.tB, L2.tAndV, L2.tOrV, L2.tNotV, L2.tDrop, L2.tNext, L2.tChain, L2.tPar, L2.tPar3, Cm.tErr, Cm.tGT, L2.tTup, L2.tLst,
  List.getElem?_cons_zero, List.getElem?_cons_succ, Option.some.injEq, exists_eq_left', exists_eq_left, exists_eq', exists_eq, exists_and_left, exists_and_right, exists_const, List.cons.injEq, and_true, true_and, L2.V.str.injEq, L2.V.int.injEq, L2.V.bl.injEq, L2.V.ref.injEq, PySem.Str.mk.injEq, Tx.arr1, Tx.str_len, Tx.at_nat, Tx.cut_nat, Tx.find_one,
  and_assoc, Int.ofNat_inj, Nat.add_sub_cancel_left, Lx.take1_eq, decide_eq_true_eq, Bool.not_eq_true', decide_eq_false_iff_not, Int.ofNat_lt, Int.ofNat_le, Bool.false_eq_true, if_false, if_true, List.set_cons_zero, List.set_cons_succ, List.append_nil, List.nil_append, ↓reduceIte, Cm.nat_succ, Cm.nat_add, Cm.nat_two, List.toList_toArray, not_true, not_false_iff, Cm.toArr_inj, Cm.two_one, Cm.tyV_str, Cm.scal_ss, Cm.scal_ii, Cm.scal_bb, Cm.cb_K, reduceCtorEq, false_and, exists_false, or_false, false_or, List.map_cons, List.map_nil, hz, ht, spRunEnd]
    unfold intLen at k
    rw [headD_drop ha] at k
    dsimp only at k
    have fin : ∀ b : Nat, Q (.int (a + (if 1 ≤ runLen kDIGITS (List.drop b (List.drop a t)) ∧ runLen kDIGITS (List.drop b (List.drop a t)) ≤ 60 then b + runLen kDIGITS (List.drop b (List.drop a t)) else 0) : Nat)) H →
        if 1 ≤ ((a + b + runLen kDIGITS (List.drop (a + b) t) : Nat) : Int) - ((a + b : Nat) : Int) then (if ((a + b + runLen kDIGITS (List.drop (a + b) t) : Nat) : Int) - ((a + b : Nat) : Int) ≤ 60 then Q (.int (a + b + runLen kDIGITS (List.drop (a + b) t) : Nat)) H else Q (.int (a : Nat)) H) else Q (.int (a : Nat)) H := fun b k => by
      rw [List.drop_drop] at k
      split
      · split
        · rw [if_pos (by omega)] at k
          exact q_int k (by omega)
        · rw [if_neg (by omega)] at k
          exact k
      · rw [if_neg (by omega)] at k
        exact k
    split
    · rename_i hn
      refine ⟨_, List.getElem?_eq_getElem ha, ?_⟩
      split
      · rename_i hx
        have e : (if neg = true ∧ t[a] = 45 then 1 else 0) = 1 := if_pos ⟨hn, hx⟩
        rw [e] at k
        exact fin 1 k
      · rename_i hx
        have e : (if neg = true ∧ t[a] = 45 then 1 else 0) = 0 := if_neg (fun z => hx z.2)
        rw [e] at k
        exact fin 0 k
    · rename_i hn
      have e : (if neg = true ∧ t[a] = 45 then 1 else 0) = 0 := if_neg (fun z => hn z.1)
      rw [e] at k
      exact fin 0 k
theorem ok_comment_end (M : Md P w K mg base CB) : Ok P w K mg base 3 "comment_end" ["text", "at"] (spComment CB) := by
  refine mk M.a_comment_end sc_comment_end (fun _ _ _ _ _ _ us hl => match us, hl with | [_, _], _ => rfl) (fun vs H Q E h => ?_) (fun f cdv A outer s H vs Q E hr h => ?_)
  · obtain ⟨t, a, rfl, _⟩ := h
    rfl
  · obtain ⟨t, a, rfl, ht, ha, k⟩ := h
    have hz := szl ht
    refine ⟨_, (pss_cons (ps_asg (pe_bm PySem.F.plainAttrs_str PySem.F.slot_str_find PySem.F.type_str_find mt_find3 (pv 0) (pa_cons (pe_strL [34]) (pa_cons (pe_op op_add (pv 1) pe_int) pa_nil))) (pg_name (i := 2) sc_comment_end.nd rfl (.inl rfl)))
      (pss_cons (ps_if (pt_cmpR op_lt (pv 2) pe_int (nomark _)) (pss_one (ps_raise rfl tkb (pmk1 M.x_BadSource hr (by rfl) (pv 1)))) pss_nil)
      (pss_one (ps_ret (pe_op op_add (pv 2) pe_int))))), ?_⟩
    show tSeq _ _ _ [some (S t), some (.int a), none] H
    simp only [L2.tSeq, L2.tRet, L2.tVar, L2.tAnd, L2.tOr, L2.tNot, L2.tTest, L2.tOp, L2.tUn, L2.rU, L2.tCB, L2.tCons, L2.tNil, L2.rIxS, L2.rI0, L2.rI, L2.rEq, L2.rNe, L2.tAug, L2.ipI, L2.tC, L2.tIfS, L2.tIf, L2.tCall, L2.tAsg, L2.gName, L2.tSl, L2.rSlS, L2.tPart, L2.tNoPart, L2.tBM, L2.tBM0, L2.tB, L2.tAndV, L2.tOrV, L2.tNotV, L2.tDrop, L2.tNext, L2.tChain, L2.tPar, L2.tPar3, Cm.tErr, Cm.tGT, L2.tTup, L2.tLst,
  List.getElem?_cons_zero, List.getElem?_cons_succ, Option.some.injEq, exists_eq_left', exists_eq_left, exists_eq', exists_eq, exists_and_left, exists_and_right, exists_const, List.cons.injEq, and_true, true_and, L2.V.str.injEq, L2.V.int.injEq, L2.V.bl.injEq, L2.V.ref.injEq, PySem.Str.mk.injEq, Tx.arr1, Tx.str_len, Tx.at_nat, Tx.cut_nat, Tx.find_one,
  and_assoc, Int.ofNat_inj, Nat.add_sub_cancel_left, Lx.take1_eq, decide_eq_true_eq, Bool.not_eq_true', decide_eq_false_iff_not, Int.ofNat_lt, Int.ofNat_le, Bool.false_eq_true, if_false, if_true, List.set_cons_zero, List.set_cons_succ, List.append_nil, List.nil_append, ↓reduceIte, Cm.nat_succ, Cm.nat_add, Cm.nat_two, List.toList_toArray, not_true, not_false_iff, Cm.toArr_inj, Cm.two_one, Cm.tyV_str, Cm.scal_ss, Cm.scal_ii, Cm.scal_bb, Cm.cb_K, reduceCtorEq, false_and, exists_false, or_false, false_or, List.map_cons, List.map_nil, hz, ht]
    unfold commentLen at k
    rw [List.drop_drop] at k
    unfold Tx.findFrom
    cases hf : List.findIdx? (fun x => x == 34) (List.drop (a + 1) t) with
    | none =>
      rw [hf] at k
      simp only [Option.map_none]
      rw [if_pos (by decide)]
      exact fun d hd => k d _ (same_new hd) hd upd_same
    | some n =>
      rw [hf] at k
      have k' : Q (.int (a + (n + 2) : Nat)) H := k
      show if ((n + (a + 1) : Nat) : Int) < 0 then _ else Q (.int (((n + (a + 1) : Nat) : Int) + 1)) H
      rw [if_neg (by omega)]
      exact q_int k' (by omega)
theorem ok_sign_word (M : Md P w K mg base CB) : Ok P w K mg base 3 "sign_word" ["text", "at"] (spWord CB signWord) := by
  refine mk M.a_sign_word sc_sign_word (fun _ _ _ _ _ _ us hl => match us, hl with | [_, _], _ => rfl) (fun vs H Q E h => ?_) (fun f cdv A outer s H vs Q E hr h => ?_)
  · obtain ⟨t, a, rfl, _⟩ := h
    rfl
  · obtain ⟨t, a, rfl, ht, ha, k⟩ := h
    have hz := szl ht
    have ha' := Nat.le_of_lt ha
    refine ⟨_, (pss_cons (ps_asg (pc (ok_first_of M) (hr.mono (by decide)) (by rfl) psb (pa_cons (pn_tup (by rfl) M.c_OPERATORS_FIRST) (pa_cons (pv 0) (pa_cons (pv 1) pa_nil)))) (pg_name (i := 2) sc_sign_word.nd rfl (.inl rfl)))
      (pss_cons (ps_if (pt_cmpR op_ne (pv 2) (pe_strL []) (nomark _)) (pss_one (ps_ret (pe_tup (pa_cons (pe_strL [111, 112]) (pa_cons (pv 2) (pa_cons (pe_op op_add (pv 1) (pe_callB call_len_str (by rfl) M.g_len PySem.boot_len (pa_cons (pv 2) pa_nil))) pa_nil)))))) pss_nil)
      (pss_cons (ps_asg (pc (ok_first_of M) (hr.mono (by decide)) (by rfl) psb (pa_cons (pn_tup (by rfl) M.c_SIGNS_FIRST) (pa_cons (pv 0) (pa_cons (pv 1) pa_nil)))) (pg_name (i := 2) sc_sign_word.nd rfl (.inl rfl)))
      (pss_cons (ps_if (pt_cmpR op_eq (pv 2) (pe_strL []) (nomark _)) (pss_one (ps_raise rfl tkb (pmk1 M.x_BadSource hr (by rfl) (pv 1)))) pss_nil)
      (pss_one (ps_ret (pe_tup (pa_cons (pe_strL [115, 105, 103, 110]) (pa_cons (pv 2) (pa_cons (pe_op op_add (pv 1) (pe_callB call_len_str (by rfl) M.g_len PySem.boot_len (pa_cons (pv 2) pa_nil))) pa_nil)))))))))), ?_⟩
    show tSeq _ _ _ [some (S t), some (.int a), none] H
    simp only [L2.tSeq, L2.tRet, L2.tVar, L2.tAnd, L2.tOr, L2.tNot, L2.tTest, L2.tOp, L2.tUn, L2.rU, L2.tCB, L2.tCons, L2.tNil, L2.rIxS, L2.rI0, L2.rI, L2.rEq, L2.rNe, L2.tAug, L2.ipI, L2.tC, L2.tIfS, L2.tIf, L2.tCall, L2.tAsg, L2.gName, L2.tSl, L2.rSlS, L2.tPart, L2.tNoPart, L2.tBM, L2.tBM0, L2.tB, L2.tAndV, L2.tOrV, L2.tNotV, L2.tDrop, L2.tNext, L2.tChain, L2.tPar, L2.tPar3, Cm.tErr, Cm.tGT, L2.tTup, L2.tLst,
  List.getElem?_cons_zero, List.getElem?_cons_succ, Option.some.injEq, exists_eq_left', exists_eq_left, exists_eq', exists_eq, exists_and_left, exists_and_right, exists_const, List.cons.injEq, and_true, true_and, L2.V.str.injEq, L2.V.int.injEq, L2.V.bl.injEq, L2.V.ref.injEq, PySem.Str.mk.injEq, Tx.arr1, Tx.str_len, Tx.at_nat, Tx.cut_nat, Tx.find_one,
  and_assoc, Int.ofNat_inj, Nat.add_sub_cancel_left, Lx.take1_eq, decide_eq_true_eq, Bool.not_eq_true', decide_eq_false_iff_not, Int.ofNat_lt, Int.ofNat_le, Bool.false_eq_true, if_false, if_true, List.set_cons_zero, List.set_cons_succ, List.append_nil, List.nil_append, ↓reduceIte, Cm.nat_succ, Cm.nat_add, Cm.nat_two, List.toList_toArray, not_true, not_false_iff, Cm.toArr_inj, Cm.two_one, Cm.tyV_str, Cm.scal_ss, Cm.scal_ii, Cm.scal_bb, Cm.cb_K, reduceCtorEq, false_and, exists_false, or_false, false_or, List.map_cons, List.map_nil, hz, ht, spFirst]
    intro c1 hc1
    refine ⟨kOPERATORS_FIRST, hc1 H, ha', ?_⟩
    have h1 := firstOf_le kOPERATORS_FIRST (t.drop a)
    have h2 := firstOf_le kSIGNS_FIRST (t.drop a)
    rw [List.length_drop] at h1 h2
    unfold signWord at k
    split
    · rename_i hx
      rw [if_neg hx] at k
      exact ⟨by omega, by show 3 ≤ sizeLine; decide, fun p hp => k p _ (same_new hp) hp upd_same⟩
    · rename_i hx
      rw [if_pos (Classical.not_not.mp hx)] at k
      intro c2 hc2
      refine ⟨kSIGNS_FIRST, hc2 H, ha', ?_⟩
      split
      · rename_i hy
        rw [if_pos hy] at k
        exact fun d hd => k d _ (same_new hd) hd upd_same
      · rename_i hy
        rw [if_neg hy] at k
        exact ⟨by omega, by show 3 ≤ sizeLine; decide, fun p hp => k p _ (same_new hp) hp upd_same⟩
theorem ok_name_word (M : Md P w K mg base CB) : Ok P w K mg base 4 "name_word" ["text", "at"] (spWord CB nameWord) := by
  refine mk M.a_name_word sc_name_word (fun _ _ _ _ _ _ us hl => match us, hl with | [_, _], _ => rfl) (fun vs H Q E h => ?_) (fun f cdv A outer s H vs Q E hr h => ?_)
  · obtain ⟨t, a, rfl, _⟩ := h
    rfl
  · obtain ⟨t, a, rfl, ht, ha, k⟩ := h
    have hz := szl ht
    have ha' := Nat.le_of_lt ha
    refine ⟨_, (pss_cons (ps_asg (pc (ok_keyword_end M) (hr.mono (by decide)) (by rfl) psb (pa_cons (pv 0) (pa_cons (pv 1) pa_nil))) (pg_name (i := 2) sc_name_word.nd rfl (.inl rfl)))
      (pss_cons (ps_if (pt_cmpR op_gt (pv 2) (pv 1) (nomark _)) (pss_one (ps_ret (pe_tup (pa_cons (pe_strL [107, 101, 121, 119, 111, 114, 100]) (pa_cons (pe_slice sl_str (pv 0) (po_some (pv 1)) (po_some (pv 2))) (pa_cons (pv 2) pa_nil)))))) pss_nil)
      (pss_cons (ps_asg (pc (ok_name_end M) (hr.mono (by decide)) (by rfl) psb (pa_cons (pv 0) (pa_cons (pv 1) pa_nil))) (pg_name (i := 2) sc_name_word.nd rfl (.inl rfl)))
      (pss_cons (ps_if (pt_cmpR op_eq (pv 2) (pv 1) (nomark _)) (pss_one (ps_raise rfl tkb (pmk1 M.x_BadSource hr (by rfl) (pv 1)))) pss_nil)
      (pss_one (ps_ret (pe_tup (pa_cons (pe_strL [110, 97, 109, 101]) (pa_cons (pe_slice sl_str (pv 0) (po_some (pv 1)) (po_some (pv 2))) (pa_cons (pv 2) pa_nil)))))))))), ?_⟩
    show tSeq _ _ _ [some (S t), some (.int a), none] H
    simp only [L2.tSeq, L2.tRet, L2.tVar, L2.tAnd, L2.tOr, L2.tNot, L2.tTest, L2.tOp, L2.tUn, L2.rU, L2.tCB, L2.tCons, L2.tNil, L2.rIxS, L2.rI0, L2.rI, L2.rEq, L2.rNe, L2.tAug, L2.ipI, L2.tC, L2.tIfS, L2.tIf, L2.tCall, L2.tAsg, L2.gName, L2.tSl, L2.rSlS, L2.tPart, L2.tNoPart, L2.tBM, L2.tBM0, L2.tB, L2.tAndV, L2.tOrV, L2.tNotV, L2.tDrop, L2.tNext, L2.tChain, L2.tPar, L2.tPar3, Cm.tErr, Cm.tGT, L2.tTup, L2.tLst,
  List.getElem?_cons_zero, List.getElem?_cons_succ, Option.some.injEq, exists_eq_left', exists_eq_left, exists_eq', exists_eq, exists_and_left, exists_and_right, exists_const, List.cons.injEq, and_true, true_and, L2.V.str.injEq, L2.V.int.injEq, L2.V.bl.injEq, L2.V.ref.injEq, PySem.Str.mk.injEq, Tx.arr1, Tx.str_len, Tx.at_nat, Tx.cut_nat, Tx.find_one,
  and_assoc, Int.ofNat_inj, Nat.add_sub_cancel_left, Lx.take1_eq, decide_eq_true_eq, Bool.not_eq_true', decide_eq_false_iff_not, Int.ofNat_lt, Int.ofNat_le, Bool.false_eq_true, if_false, if_true, List.set_cons_zero, List.set_cons_succ, List.append_nil, List.nil_append, ↓reduceIte, Cm.nat_succ, Cm.nat_add, Cm.nat_two, List.toList_toArray, not_true, not_false_iff, Cm.toArr_inj, Cm.two_one, Cm.tyV_str, Cm.scal_ss, Cm.scal_ii, Cm.scal_bb, Cm.cb_K, reduceCtorEq, false_and, exists_false, or_false, false_or, List.map_cons, List.map_nil, hz, ht, spTA, ha']
    unfold nameWord at k
    split
    · rename_i hx
      rw [if_pos (by omega)] at k
      exact ⟨by show 3 ≤ sizeLine; decide, fun p hp => k p _ (same_new hp) hp upd_same⟩
    · rename_i hx
      rw [if_neg (by omega)] at k
      split
      · rename_i hy
        rw [if_pos (by omega)] at k
        exact fun d hd => k d _ (same_new hd) hd upd_same
      · rename_i hy
        rw [if_neg (by omega)] at k
        exact ⟨by show 3 ≤ sizeLine; decide, fun p hp => k p _ (same_new hp) hp upd_same⟩
theorem ok_symbol_end (M : Md P w K mg base CB) : Ok P w K mg base 5 "symbol_end" ["text", "at"] spSymEnd := by
  refine mk M.a_symbol_end sc_symbol_end (fun _ _ _ _ _ _ us hl => match us, hl with | [_, _], _ => rfl) (fun vs H Q E h => ?_) (fun f cdv A outer s H vs Q E hr h => ?_)
  · obtain ⟨t, a, rfl, _⟩ := h
    rfl
  · obtain ⟨t, a, rfl, ht, ha, k⟩ := h
    have hz := szl ht
    have ha' : a + 1 ≤ t.length := ha
    refine ⟨_, (pss_cons (ps_asg (pe_op op_add (pv 1) pe_int) (pg_name (i := 2) sc_symbol_end.nd rfl (.inl rfl)))
      (pss_cons (ps_if (pt_cmpR op_eq (pe_slice sl_str (pv 0) (po_some (pv 2)) (po_some (pe_op op_add (pv 2) pe_int))) (pe_strL [39]) (nomark _)) (pss_one (ps_ret (pc (ok_string_end M) (hr.mono (by decide)) (by rfl) psb (pa_cons (pv 0) (pa_cons (pv 2) pa_nil))))) pss_nil)
      (pss_cons (ps_asg (pe_callB (call_max2 rfl) (by rfl) M.g_max (by decide +kernel) (pa_cons (pc (ok_keywords_end M) (hr.mono (by decide)) (by rfl) psb (pa_cons (pv 0) (pa_cons (pv 2) pa_nil))) (pa_cons (pc (ok_name_end M) (hr.mono (by decide)) (by rfl) psb (pa_cons (pv 0) (pa_cons (pv 2) pa_nil))) pa_nil))) (pg_name (i := 3) sc_symbol_end.nd rfl (.inl rfl)))
      (pss_cons (ps_if (pt_cmpR op_eq (pv 3) (pv 2) (nomark _)) (pss_one (ps_asg (pe_op op_add (pv 2) (pe_callB call_len_str (by rfl) M.g_len PySem.boot_len (pa_cons (pc (ok_first_of M) (hr.mono (by decide)) (by rfl) psb (pa_cons (pn_tup (by rfl) M.c_OPERATORS_FIRST) (pa_cons (pv 0) (pa_cons (pv 2) pa_nil)))) pa_nil))) (pg_name (i := 3) sc_symbol_end.nd rfl (.inl rfl)))) pss_nil)
      (pss_one (ps_ret (pe_ifExp (pt_cmpR op_gt (pv 3) (pv 2) (nomark _)) (pv 3) (pv 1)))))))), ?_⟩
    show tSeq _ _ _ [some (S t), some (.int a), none, none] H
    simp only [L2.tSeq, L2.tRet, L2.tVar, L2.tAnd, L2.tOr, L2.tNot, L2.tTest, L2.tOp, L2.tUn, L2.rU, L2.tCB, L2.tCons, L2.tNil, L2.rIxS, L2.rI0, L2.rI, L2.rEq, L2.rNe, L2.tAug, L2.ipI, L2.tC, L2.tIfS, L2.tIf, L2.tCall, L2.tAsg, L2.gName, L2.tSl, L2.rSlS, L2.tPart, L2.tNoPart, L2.tBM, L2.tBM0, L2.tB, L2.tAndV, L2.tOrV, L2.tNotV, L2.tDrop, L2.tNext, L2.tChain, L2.tPar, L2.tPar3, Cm.tErr, Cm.tGT, L2.tTup, L2.tLst,
  List.getElem?_cons_zero, List.getElem?_cons_succ, Option.some.injEq, exists_eq_left', exists_eq_left, exists_eq', exists_eq, exists_and_left, exists_and_right, exists_const, List.cons.injEq, and_true, true_and, L2.V.str.injEq, L2.V.int.injEq, L2.V.bl.injEq, L2.V.ref.injEq, PySem.Str.mk.injEq, Tx.arr1, Tx.str_len, Tx.at_nat, Tx.cut_nat, Tx.find_one,
  and_assoc, Int.ofNat_inj, Nat.add_sub_cancel_left, Lx.take1_eq, decide_eq_true_eq, Bool.not_eq_true', decide_eq_false_iff_not, Int.ofNat_lt, Int.ofNat_le, Bool.false_eq_true, if_false, if_true, List.set_cons_zero, List.set_cons_succ, List.append_nil, List.nil_append, ↓reduceIte, Cm.nat_succ, Cm.nat_add, Cm.nat_two, List.toList_toArray, not_true, not_false_iff, Cm.toArr_inj, Cm.two_one, Cm.tyV_str, Cm.scal_ss, Cm.scal_ii, Cm.scal_bb, Cm.cb_K, reduceCtorEq, false_and, exists_false, or_false, false_or, List.map_cons, List.map_nil, hz, ht, spTA, ha', spStrEnd, spFirst]
    unfold symLen at k
    rw [List.getElem?_drop, List.drop_drop] at k
    split
    · rename_i hx
      rw [if_pos hx] at k
      cases q : strLen (t.drop (a + 1)) with
      | none =>
        rw [q] at k
        exact k
      | some n =>
        rw [q] at k
        exact q_int k (by show ((a + (n + 1) : Nat) : Int) = ((a + 1 + n : Nat) : Int); omega)
    · rename_i hx
      rw [if_neg hx] at k
      have h1 := firstOf_le kOPERATORS_FIRST (t.drop (a + 1))
      rw [List.length_drop] at h1
      generalize kwsLen (t.drop (a + 1)) = x at k ⊢
      generalize nameLen (t.drop (a + 1)) = y at k ⊢
      dsimp only at k
      have ez : (if a + 1 + x < a + 1 + y then ((a + 1 + y : Nat) : Int) else ((a + 1 + x : Nat) : Int)) = ((a + 1 + (if x < y then y else x) : Nat) : Int) := by
        by_cases hxy : x < y
        · rw [if_pos hxy, if_pos (by omega)]
        · rw [if_neg hxy, if_neg (by omega)]
      simp only [ez]
      generalize (if x < y then y else x) = n at k ⊢
      split
      · rename_i he
        intro c1 hc1
        refine ⟨kOPERATORS_FIRST, hc1 H, by omega, ?_⟩
        have hn : n = 0 := by omega
        subst hn
        rw [if_pos rfl] at k
        split
        · rw [if_pos (by omega)] at k
          exact q_int k (by show ((a + (_ + 1) : Nat) : Int) = _; omega)
        · rw [if_neg (by omega)] at k
          exact k
      · rename_i he
        have e0 : (if n = 0 then (firstOf kOPERATORS_FIRST (t.drop (a + 1))).length else n) = n := if_neg (by omega)
        rw [e0] at k
        split
        · rw [if_pos (by omega)] at k
          exact q_int k (by show ((a + (n + 1) : Nat) : Int) = _; omega)
        · rw [if_neg (by omega)] at k
          exact k
theorem ok_string_of (M : Md P w K mg base CB) : Ok P w K mg base 1 "string_of" ["text"] spStrOf := by
  refine mkT M.a_string_of sc_string_of (by decide +kernel) (by decide) (fun _ _ _ _ _ _ us hl => match us, hl with | [_], _ => rfl) (fun vs H Q E h => ?_) (fun f cdv A outer s H vs Q E hr h => ?_)
  · obtain ⟨t, rfl, _⟩ := h
    rfl
  · obtain ⟨t, rfl, ht, k⟩ := h
    have hz := szl ht
    refine ⟨_, CwR.psst_one (CwR.pst_ret (CwR.pet_replC (y := ⟨#[39, 39]⟩) (z := ⟨#[39]⟩) (pe_slice sl_str (pv 0) (po_some pe_int) (po_some (pe_un un_neg pe_int))) (by decide +kernel))), ?_⟩
    show tRet _ _ [some (S t)] H
    simp only [L2.tSeq, L2.tRet, L2.tVar, L2.tAnd, L2.tOr, L2.tNot, L2.tTest, L2.tOp, L2.tUn, L2.rU, L2.tCB, L2.tCons, L2.tNil, L2.rIxS, L2.rI0, L2.rI, L2.rEq, L2.rNe, L2.tAug, L2.ipI, L2.tC, L2.tIfS, L2.tIf, L2.tCall, L2.tAsg, L2.gName, L2.tSl, L2.rSlS, L2.tPart, L2.tNoPart, L2.tBM, L2.tBM0, L2.tB, L2.tAndV, L2.tOrV, L2.tNotV, L2.tDrop, L2.tNext, L2.tChain, L2.tPar, L2.tPar3, Cm.tErr, Cm.tGT, L2.tTup, L2.tLst,
  List.getElem?_cons_zero, List.getElem?_cons_succ, Option.some.injEq, exists_eq_left', exists_eq_left, exists_eq', exists_eq, exists_and_left, exists_and_right, exists_const, List.cons.injEq, and_true, true_and, L2.V.str.injEq, L2.V.int.injEq, L2.V.bl.injEq, L2.V.ref.injEq, PySem.Str.mk.injEq, Tx.arr1, Tx.str_len, Tx.at_nat, Tx.cut_nat, Tx.find_one,
  and_assoc, Int.ofNat_inj, Nat.add_sub_cancel_left, Lx.take1_eq, decide_eq_true_eq, Bool.not_eq_true', decide_eq_false_iff_not, Int.ofNat_lt, Int.ofNat_le, Bool.false_eq_true, if_false, if_true, List.set_cons_zero, List.set_cons_succ, List.append_nil, List.nil_append, ↓reduceIte, Cm.nat_succ, Cm.nat_add, Cm.nat_two, List.toList_toArray, not_true, not_false_iff, Cm.toArr_inj, Cm.two_one, Cm.tyV_str, Cm.scal_ss, Cm.scal_ii, Cm.scal_bb, Cm.cb_K, reduceCtorEq, false_and, exists_false, or_false, false_or, List.map_cons, List.map_nil, hz, CwR.tReplC]
    have e1 := Tx.cut_1m1 t
    rw [e1]
    have hl : (List.take (t.length - 2) (List.drop 1 t)).length ≤ t.length := by rw [List.length_take, List.length_drop]; omega
    refine ⟨by rw [Tx.str_len]; show _ + (_ + 1) * 1 ≤ _; omega, ?_⟩
    rw [Tx.repl_list _ _ _ (by decide)]
    exact k
theorem ok_string_word (M : Md P w K mg base CB) : Ok P w K mg base 3 "string_word" ["text", "at"] (spWord CB strWord) := by
  refine mk M.a_string_word sc_string_word (fun _ _ _ _ _ _ us hl => match us, hl with | [_, _], _ => rfl) (fun vs H Q E h => ?_) (fun f cdv A outer s H vs Q E hr h => ?_)
  · obtain ⟨t, a, rfl, _⟩ := h
    rfl
  · obtain ⟨t, a, rfl, ht, ha, k⟩ := h
    have hz := szl ht
    have ha' := Nat.le_of_lt ha
    refine ⟨_, (pss_cons (ps_asg (pc (ok_string_end M) (hr.mono (by decide)) (by rfl) psb (pa_cons (pv 0) (pa_cons (pv 1) pa_nil))) (pg_name (i := 2) sc_string_word.nd rfl (.inl rfl)))
      (pss_cons (ps_if (pt_cmpR op_lt (pv 2) pe_int (nomark _)) (pss_one (ps_raise rfl tkb (pmk1 M.x_BadSource hr (by rfl) (pv 1)))) pss_nil)
      (pss_one (ps_ret (pe_tup (pa_cons (pe_strL [115, 116, 114]) (pa_cons (pc (ok_string_of M) (hr.mono (by decide)) (by rfl) psb (pa_cons (pe_slice sl_str (pv 0) (po_some (pv 1)) (po_some (pv 2))) pa_nil)) (pa_cons (pv 2) pa_nil)))))))), ?_⟩
    show tSeq _ _ _ [some (S t), some (.int a), none] H
    simp only [L2.tSeq, L2.tRet, L2.tVar, L2.tAnd, L2.tOr, L2.tNot, L2.tTest, L2.tOp, L2.tUn, L2.rU, L2.tCB, L2.tCons, L2.tNil, L2.rIxS, L2.rI0, L2.rI, L2.rEq, L2.rNe, L2.tAug, L2.ipI, L2.tC, L2.tIfS, L2.tIf, L2.tCall, L2.tAsg, L2.gName, L2.tSl, L2.rSlS, L2.tPart, L2.tNoPart, L2.tBM, L2.tBM0, L2.tB, L2.tAndV, L2.tOrV, L2.tNotV, L2.tDrop, L2.tNext, L2.tChain, L2.tPar, L2.tPar3, Cm.tErr, Cm.tGT, L2.tTup, L2.tLst,
  List.getElem?_cons_zero, List.getElem?_cons_succ, Option.some.injEq, exists_eq_left', exists_eq_left, exists_eq', exists_eq, exists_and_left, exists_and_right, exists_const, List.cons.injEq, and_true, true_and, L2.V.str.injEq, L2.V.int.injEq, L2.V.bl.injEq, L2.V.ref.injEq, PySem.Str.mk.injEq, Tx.arr1, Tx.str_len, Tx.at_nat, Tx.cut_nat, Tx.find_one,
  and_assoc, Int.ofNat_inj, Nat.add_sub_cancel_left, Lx.take1_eq, decide_eq_true_eq, Bool.not_eq_true', decide_eq_false_iff_not, Int.ofNat_lt, Int.ofNat_le, Bool.false_eq_true, if_false, if_true, List.set_cons_zero, List.set_cons_succ, List.append_nil, List.nil_append, ↓reduceIte, Cm.nat_succ, Cm.nat_add, Cm.nat_two, List.toList_toArray, not_true, not_false_iff, Cm.toArr_inj, Cm.two_one, Cm.tyV_str, Cm.scal_ss, Cm.scal_ii, Cm.scal_bb, Cm.cb_K, reduceCtorEq, false_and, exists_false, or_false, false_or, List.map_cons, List.map_nil, hz, ht, spStrEnd, ha', spStrOf]
    unfold strWord at k
    cases q : strLen (t.drop a) with
    | none =>
      rw [q] at k
      exact fun d hd => k d _ (same_new hd) hd upd_same
    | some n =>
      rw [q] at k
      have hle := strLen_le q
      rw [List.length_drop] at hle
      show if ((a + n : Nat) : Int) < 0 then _ else _
      rw [if_neg (by omega)]
      refine ⟨(t.drop a).take n, ?_, ?_, by show 3 ≤ sizeLine; decide, fun p hp => k p _ (same_new hp) hp upd_same⟩
      · show cutS _ (some (a : Int)) (some ((a + n : Nat) : Int)) = _
        rw [Tx.cut_nat, Nat.add_sub_cancel_left]
      · show (List.take n (List.drop a t)).length ≤ 100000
        rw [List.length_take]
        omega
theorem ok_symbol_word (M : Md P w K mg base CB) : Ok P w K mg base 6 "symbol_word" ["text", "at"] (spWord CB symWord) := by
  refine mk M.a_symbol_word sc_symbol_word (fun _ _ _ _ _ _ us hl => match us, hl with | [_, _], _ => rfl) (fun vs H Q E h => ?_) (fun f cdv A outer s H vs Q E hr h => ?_)
  · obtain ⟨t, a, rfl, _⟩ := h
    rfl
  · obtain ⟨t, a, rfl, ht, ha, k⟩ := h
    have hz := szl ht
    have ha' := Nat.le_of_lt ha
    refine ⟨_, (pss_cons (ps_asg (pc (ok_symbol_end M) (hr.mono (by decide)) (by rfl) psb (pa_cons (pv 0) (pa_cons (pv 1) pa_nil))) (pg_name (i := 2) sc_symbol_word.nd rfl (.inl rfl)))
      (pss_cons (ps_if (pt_cmpR op_lt (pv 2) pe_int (nomark _)) (pss_one (ps_raise rfl tkb (pmk1 M.x_BadSource hr (by rfl) (pv 1)))) pss_nil)
      (pss_cons (ps_if (pt_cmpR op_gt (pv 2) (pv 1) (nomark _)) (pss_cons (ps_asg (pe_slice sl_str (pv 0) (po_some (pe_op op_add (pv 1) pe_int)) (po_some (pv 2))) (pg_name (i := 3) sc_symbol_word.nd rfl (.inl rfl)))
      (pss_one (ps_ret (pe_tup (pa_cons (pe_strL [115, 121, 109]) (pa_cons (pe_ifExp (pt_cmpR op_eq (pe_ix ix_str (pv 3) pe_int (fun _ _ => rfl)) (pe_strL [39]) (nomark _)) (pc (ok_string_of M) (hr.mono (by decide)) (by rfl) psb (pa_cons (pv 3) pa_nil)) (pv 3)) (pa_cons (pv 2) pa_nil))))))) pss_nil)
      (pss_one (ps_ret (pc (ok_sign_word M) (hr.mono (by decide)) (by rfl) psb (pa_cons (pv 0) (pa_cons (pv 1) pa_nil)))))))), ?_⟩
    show tSeq _ _ _ [some (S t), some (.int a), none, none] H
    simp only [L2.tSeq, L2.tRet, L2.tVar, L2.tAnd, L2.tOr, L2.tNot, L2.tTest, L2.tOp, L2.tUn, L2.rU, L2.tCB, L2.tCons, L2.tNil, L2.rIxS, L2.rI0, L2.rI, L2.rEq, L2.rNe, L2.tAug, L2.ipI, L2.tC, L2.tIfS, L2.tIf, L2.tCall, L2.tAsg, L2.gName, L2.tSl, L2.rSlS, L2.tPart, L2.tNoPart, L2.tBM, L2.tBM0, L2.tB, L2.tAndV, L2.tOrV, L2.tNotV, L2.tDrop, L2.tNext, L2.tChain, L2.tPar, L2.tPar3, Cm.tErr, Cm.tGT, L2.tTup, L2.tLst,
  List.getElem?_cons_zero, List.getElem?_cons_succ, Option.some.injEq, exists_eq_left', exists_eq_left, exists_eq', exists_eq, exists_and_left, exists_and_right, exists_const, List.cons.injEq, and_true, true_and, L2.V.str.injEq, L2.V.int.injEq, L2.V.bl.injEq, L2.V.ref.injEq, PySem.Str.mk.injEq, Tx.arr1, Tx.str_len, Tx.at_nat, Tx.cut_nat, Tx.find_one,
  and_assoc, Int.ofNat_inj, Nat.add_sub_cancel_left, Lx.take1_eq, decide_eq_true_eq, Bool.not_eq_true', decide_eq_false_iff_not, Int.ofNat_lt, Int.ofNat_le, Bool.false_eq_true, if_false, if_true, List.set_cons_zero, List.set_cons_succ, List.append_nil, List.nil_append, ↓reduceIte, Cm.nat_succ, Cm.nat_add, Cm.nat_two, List.toList_toArray, not_true, not_false_iff, Cm.toArr_inj, Cm.two_one, Cm.tyV_str, Cm.scal_ss, Cm.scal_ii, Cm.scal_bb, Cm.cb_K, reduceCtorEq, false_and, exists_false, or_false, false_or, List.map_cons, List.map_nil, hz, ht, spSymEnd, ha, spStrOf, spWord]
    unfold symWord at k
    cases q : symLen (t.drop a) with
    | none =>
      rw [q] at k
      exact fun d hd => k d _ (same_new hd) hd upd_same
    | some n =>
      rw [q] at k
      have hle := symLen_le q
      rw [List.length_drop] at hle
      show if ((a + n : Nat) : Int) < 0 then _ else if (a : Int) < ((a + n : Nat) : Int) then _ else _
      rw [if_neg (by omega)]
      split
      · rename_i hx
        have k' : WR CB a H Q E (if 0 < n then some (kSym, Sv (if (t.drop a)[1]? = some 39 then unq (((t.drop a).drop 1).take (n - 1)) else ((t.drop a).drop 1).take (n - 1)), n) else signWord (t.drop a)) := k
        rw [if_pos (by omega), List.drop_drop, List.getElem?_drop] at k'
        have ec : cutS ⟨t.toArray⟩ (some ((a + 1 : Nat) : Int)) (some (oN a (some n))) = ⟨((t.drop (a + 1)).take (n - 1)).toArray⟩ := by
          show cutS _ (some ((a + 1 : Nat) : Int)) (some ((a + n : Nat) : Int)) = _
          rw [Tx.cut_nat, show a + n - (a + 1) = n - 1 by omega]
        rw [ec, Tx.str_len]
        have hl : (List.take (n - 1) (List.drop (a + 1) t)).length = n - 1 := by rw [List.length_take, List.length_drop]; omega
        have hlt : a + 1 < t.length := by omega
        have e0 : atI (List.take (n - 1) (List.drop (a + 1) t)) 0 = some t[a + 1] := by
          have := Tx.at_nat (List.take (n - 1) (List.drop (a + 1) t)) 0
          rw [show ((0 : Nat) : Int) = 0 from rfl] at this
          rw [this, List.getElem?_take_of_lt (by omega), List.getElem?_drop]
          exact List.getElem?_eq_getElem hlt
        refine ⟨by rw [hl]; omega, t[a + 1], e0, ?_⟩
        rw [List.getElem?_eq_getElem hlt] at k'
        split
        · rename_i h39
          rw [if_pos (by rw [h39])] at k'
          exact ⟨_, rfl, by show (List.take (n - 1) (List.drop (a + 1) t)).length ≤ 100000; rw [hl]; omega, by show 3 ≤ sizeLine; decide, fun p hp => k' p _ (same_new hp) hp upd_same⟩
        · rename_i h39
          rw [if_neg (by intro z; exact h39 (Option.some.inj z))] at k'
          exact ⟨by show 3 ≤ sizeLine; decide, fun p hp => k' p _ (same_new hp) hp upd_same⟩
      · rename_i hx
        have k' : WR CB a H Q E (if 0 < n then some (kSym, Sv (if (t.drop a)[1]? = some 39 then unq (((t.drop a).drop 1).take (n - 1)) else ((t.drop a).drop 1).take (n - 1)), n) else signWord (t.drop a)) := k
        rw [if_neg (by omega)] at k'
        exact k'
theorem ok_word_at (M : Md P w K mg base CB) : Ok P w K mg base 7 "word_at" ["text", "at", "negative"] (spWordAt CB) := by
  refine mk M.a_word_at sc_word_at (fun _ _ _ _ _ _ us hl => match us, hl with | [_, _, _], _ => rfl) (fun vs H Q E h => ?_) (fun f cdv A outer s H vs Q E hr h => ?_)
  · obtain ⟨t, a, neg, rfl, _⟩ := h
    rfl
  · obtain ⟨t, a, neg, rfl, ht, ha, k⟩ := h
    have hz := szl ht
    have ha' := Nat.le_of_lt ha
    refine ⟨_, (pss_cons (ps_if (pt_cmpR op_in_sign (pe_ix ix_str (pv 0) (pv 1) (fun _ _ => rfl)) (pn_str (by rfl) M.c_LETTERS) (by rfl)) (pss_one (ps_ret (pc (ok_name_word M) (hr.mono (by decide)) (by rfl) psb (pa_cons (pv 0) (pa_cons (pv 1) pa_nil))))) pss_nil)
      (pss_cons (ps_if (pt_cmpR op_eq (pe_ix ix_str (pv 0) (pv 1) (fun _ _ => rfl)) (pe_strL [39]) (nomark _)) (pss_one (ps_ret (pc (ok_string_word M) (hr.mono (by decide)) (by rfl) psb (pa_cons (pv 0) (pa_cons (pv 1) pa_nil))))) pss_nil)
      (pss_cons (ps_if (pt_cmpR op_eq (pe_ix ix_str (pv 0) (pv 1) (fun _ _ => rfl)) (pe_strL [35]) (nomark _)) (pss_one (ps_ret (pc (ok_symbol_word M) (hr.mono (by decide)) (by rfl) psb (pa_cons (pv 0) (pa_cons (pv 1) pa_nil))))) pss_nil)
      (pss_cons (ps_asg (pc (ok_integer_end M) (hr.mono (by decide)) (by rfl) psb (pa_cons (pv 0) (pa_cons (pv 1) (pa_cons (pv 2) pa_nil)))) (pg_name (i := 3) sc_word_at.nd rfl (.inl rfl)))
      (pss_cons (ps_if (pt_cmpR op_gt (pv 3) (pv 1) (nomark _)) (pss_one (ps_ret (pe_tup (pa_cons (pe_strL [105, 110, 116]) (pa_cons (pe_callTy call_int_str (by rfl) M.g_int (by decide +kernel) (pa_cons (pe_slice sl_str (pv 0) (po_some (pv 1)) (po_some (pv 3))) pa_nil)) (pa_cons (pv 3) pa_nil)))))) pss_nil)
      (pss_one (ps_ret (pc (ok_sign_word M) (hr.mono (by decide)) (by rfl) psb (pa_cons (pv 0) (pa_cons (pv 1) pa_nil)))))))))), ?_⟩
    show tSeq _ _ _ [some (S t), some (.int a), some (.bl neg), none] H
    simp only [L2.tSeq, L2.tRet, L2.tVar, L2.tAnd, L2.tOr, L2.tNot, L2.tTest, L2.tOp, L2.tUn, L2.rU, L2.tCB, L2.tCons, L2.tNil, L2.rIxS, L2.rI0, L2.rI, L2.rEq, L2.rNe, L2.tAug, L2.ipI, L2.tC, L2.tIfS, L2.tIf, L2.tCall, L2.tAsg, L2.gName, L2.tSl, L2.rSlS, L2.tPart, L2.tNoPart, L2.tBM, L2.tBM0, L2.tB, L2.tAndV, L2.tOrV, L2.tNotV, L2.tDrop, L2.tNext, L2.tChain, L2.tPar, L2.tPar3, Cm.tErr, Cm.tGT, L2.tTup, L2.tLst,
  List.getElem?_cons_zero, List.getElem?_cons_succ, Option.some.injEq, exists_eq_left', exists_eq_left, exists_eq', exists_eq, exists_and_left, exists_and_right, exists_const, List.cons.injEq, and_true, true_and, L2.V.str.injEq, L2.V.int.injEq, L2.V.bl.injEq, L2.V.ref.injEq, PySem.Str.mk.injEq, Tx.arr1, Tx.str_len, Tx.at_nat, Tx.cut_nat, Tx.find_one,
  and_assoc, Int.ofNat_inj, Nat.add_sub_cancel_left, Lx.take1_eq, decide_eq_true_eq, Bool.not_eq_true', decide_eq_false_iff_not, Int.ofNat_lt, Int.ofNat_le, Bool.false_eq_true, if_false, if_true, List.set_cons_zero, List.set_cons_succ, List.append_nil, List.nil_append, ↓reduceIte, Cm.nat_succ, Cm.nat_add, Cm.nat_two, List.toList_toArray, not_true, not_false_iff, Cm.toArr_inj, Cm.two_one, Cm.tyV_str, Cm.scal_ss, Cm.scal_ii, Cm.scal_bb, Cm.cb_K, reduceCtorEq, false_and, exists_false, or_false, false_or, List.map_cons, List.map_nil, hz, ht, spIntEnd, ha, spWord]
    have ex := List.getElem?_eq_getElem ha
    have eh := headD_drop ha
    unfold wordAt at k
    rw [eh] at k
    dsimp only at k
    refine ⟨_, ex, ?_⟩
    split
    · rename_i hx
      rw [if_pos hx] at k
      exact k
    rename_i hx
    rw [if_neg hx] at k
    refine ⟨_, ex, ?_⟩
    split
    · rename_i hx
      rw [if_pos hx] at k
      exact k
    rename_i hx
    rw [if_neg hx] at k
    refine ⟨_, ex, ?_⟩
    split
    · rename_i hx
      rw [if_pos hx] at k
      exact k
    rename_i hx
    rw [if_neg hx] at k
    split
    · rename_i hi
      have hi' : 0 < intLen (t.drop a) neg := by omega
      rw [if_pos hi'] at k
      have hl := intLen_le60 (t.drop a) neg
      exact ⟨_, intText_ok hi', by rw [List.length_take]; omega, by show 3 ≤ sizeLine; decide, fun p hp => k p _ (same_new hp) hp upd_same⟩
    · rename_i hi
      rw [if_neg (by omega)] at k
      exact k
end
end W
namespace W
open PySem PySem.Spec PyProof.Rows L2 Cm Lx
/-- the words of ws lie in the list at l -/
def TokAt (H : Hp) (p : Addr) (t : Lx.Tok) : Prop := H p = some (.tup [S t.1, t.2.1, .int (t.2.2 : Nat)]) ∧ flatV t.2.1 = true ∧ ∀ l, scal t.2.1 (S l) = true
def ToksAt (H : Hp) (l : Addr) (ws : Toks) : Prop := ∃ ps : List Addr, H l = some (.lst (ps.map V.ref)) ∧ Paired (TokAt H) ps ws
def spMay (K : PySem.W.Frag) : Sp := fun vs H Q _ => ∃ (l i : Addr) (ws : Toks) (wi : List Bool), vs = [.ref l, .ref i] ∧ ToksAt H l ws ∧ H i = some (.lst (wi.map V.bl)) ∧ ∀ H', Same H H' → Q (.bl (mayNeg ws wi)) H'
def spNote : Sp := fun vs H Q _ => ∃ (i : Addr) (wi : List Bool) (k : List Nat) (v : V), vs = [.ref i, S k, v] ∧ flatV v = true ∧ (∀ l, scal v (S l) = true) ∧ H i = some (.lst (wi.map V.bl)) ∧ wi.length ≤ 100000 ∧
  ∀ H', (∀ b o, b ≠ i → H b = some o → H' b = some o) → H' i = some (.lst ((noteSign wi k v).map V.bl)) → Q .non H'
def note1 (wi : List Bool) (k : List Nat) (v : V) : List Bool := if k = kSign ∧ (v = Sv [35, 40] ∨ v = Sv [40]) then wi ++ [decide (v = Sv [35, 40]) || decide (wi.getLast? = some true)] else wi
theorem note1_eq (wi : List Bool) (k : List Nat) (v : V) : noteSign wi k v = if k = kSign ∧ v = Sv [41] ∧ note1 wi k v ≠ [] then (note1 wi k v).dropLast else note1 wi k v := rfl
theorem S_inj {a b : List Nat} (h : S a = S b) : a = b := by
  have := congrArg (fun v => match v with | V.str z => z.cps.toList | _ => []) h
  simpa using this
theorem inV_strs (k : List Nat) (ks : List (List Nat)) : inV (S k) (ks.map S) = decide (k ∈ ks) := by
  unfold inV
  induction ks with
  | nil => rfl
  | cons x ks ih =>
    rw [List.map_cons, List.any_cons, ih]
    have e : eqV (S x) (S k) = decide (x = k) := by
      show ((⟨x.toArray⟩ : Str) == ⟨k.toArray⟩) = _
      rw [Bool.eq_iff_iff, beq_iff_eq, decide_eq_true_eq]
      constructor
      · intro z
        have := congrArg (fun s : Str => s.cps.toList) z
        simpa using this
      · rintro rfl
        rfl
    rw [e]
    by_cases h : k = x
    · subst h
      simp
    · have h2 : ¬ x = k := fun z => h z.symm
      simp [h, h2]
theorem inV_two {v : V} {a b : List Nat} (fv : flatV v = true) (h : inV v [S a, S b] = true) : v = S a ∨ v = S b := by
  unfold inV at h
  simp only [List.any_cons, List.any_nil, Bool.or_false, Bool.or_eq_true] at h
  cases v with
  | str z =>
    rcases h with h | h
    · left
      have h' : ((⟨a.toArray⟩ : Str) == z) = true := h
      rw [← eq_of_beq h']
    · right
      have h' : ((⟨b.toArray⟩ : Str) == z) = true := h
      rw [← eq_of_beq h']
  | _ => rcases h with h | h <;> cases h
theorem inV_two' {v : V} {a b : List Nat} (h : ¬ inV v [S a, S b] = true) : ¬ (v = S a ∨ v = S b) := by
  intro z
  apply h
  unfold inV
  simp only [List.any_cons, List.any_nil, Bool.or_false, Bool.or_eq_true]
  rcases z with rfl | rfl
  · left
    exact beq_self_eq_true (⟨a.toArray⟩ : Str)
  · right
    exact beq_self_eq_true (⟨b.toArray⟩ : Str)
def spWordsIn (CB : Addr) : Sp := fun vs H Q E => ∃ t : List Nat, vs = [S t] ∧ BT t ∧ (match lex t with
  | .ok ws => ∀ l H', Same H H' → H l = none → ToksAt H' l ws → Q (.ref l) H'
  | .error p => ∀ d H', Same H H' → H d = none → H' d = some (.xd [("place", .int (p : Nat))]) → E (.ref CB) (some d) H')
/-- between two turns of the loop -/
def WInv (t : List Nat) (l i : Addr) (H : Hp) (m : Nat) (σ : L2.St) (H' : Hp) : Prop := ∃ (a : Nat) (ws : Toks) (wi : List Bool) (v4 v5 v6 : Option V), σ = [some (S t), some (.ref l), some (.ref i), some (.int a), v4, v5, v6] ∧ Same H H' ∧ ToksAt H' l ws ∧ H' i = some (.lst (wi.map V.bl)) ∧
  ws.length ≤ a ∧ wi.length ≤ a ∧ a ≤ t.length ∧ lexF (t.length - a) (t.drop a) a ws wi = lex t ∧ m = t.length - a
section
variable {P : Program} {w : World} {K : PySem.W.Frag} {mg : Str → Option Value} {base : Heap} {CB : Addr}
theorem ok_may_be_negative (M : Md P w K mg base CB) : Ok P w K mg base 1 "may_be_negative" ["words", "within"] (spMay K) := by
  refine mk M.a_may_be_negative sc_may_be_negative (fun _ _ _ _ _ _ us hl => match us, hl with | [_, _], _ => rfl) (fun vs H Q E h => ?_) (fun f cdv A outer s H vs Q E hr h => ?_)
  · obtain ⟨l, i, ws, wi, rfl, _⟩ := h
    rfl
  · obtain ⟨l, i, ws, wi, rfl, hw, hi, k⟩ := h
    refine ⟨_, (pss_cons (ps_if (PW.pt (pw_or (pt_cmpR (op_eqF hr.units0) (pv 0) (pe_lst pa_nil) (nomark _)) (pw_or1 (pt_cmpR (op_eqF hr.units0) (pe_slice sl_list (pv 1) (po_some (pe_un un_neg pe_int)) po_none) (pe_lst (pa_cons pe_bl pa_nil)) (nomark _))))) (pss_one (ps_ret pe_bl)) pss_nil)
      (pss_cons (ps_asg (pe_ix ix_list (pv 0) (pe_un un_neg pe_int) (fun _ _ => rfl)) (pg_tup (by rfl) (pgs_cons (pg_name (i := 2) sc_may_be_negative.nd rfl (.inl rfl)) (pgs_cons (pg_name (i := 3) sc_may_be_negative.nd rfl (.inl rfl)) (pgs_cons (pg_name (i := 4) sc_may_be_negative.nd rfl (.inl rfl)) pgs_nil)))))
      (pss_one (ps_ret (pe_and (pe_cmpR op_notIn_seq (pv 2) (pn_tup (by rfl) M.c_ENDS) (by rfl)) (pe_one (pe_not (pe_and (pe_cmpR op_eq (pv 2) (pe_strL [115, 105, 103, 110]) (nomark _)) (pe_one (pe_cmpR op_in_seq (pv 3) (pn_tup (by rfl) M.c_CLOSING) (by rfl))))))))))), ?_⟩
    show tSeq _ _ _ [some (.ref l), some (.ref i), none, none, none] H
    simp only [L2.tSeq, L2.tRet, L2.tVar, L2.tAnd, L2.tOr, L2.tNot, L2.tTest, L2.tOp, L2.tUn, L2.rU, L2.tCB, L2.tCons, L2.tNil, L2.rIxS, L2.rI0, L2.rI, L2.rEq, L2.rNe, L2.tAug, L2.ipI, L2.tC, L2.tIfS, L2.tIf, L2.tCall, L2.tAsg, L2.gName, L2.tSl, L2.rSlS, L2.tPart, L2.tNoPart, L2.tBM, L2.tBM0, L2.tB, L2.tAndV, L2.tOrV, L2.tNotV, L2.tDrop, L2.tNext, L2.tChain, L2.tPar, L2.tPar3, Cm.tErr, Cm.tGT, L2.tTup, L2.tLst,
  List.getElem?_cons_zero, List.getElem?_cons_succ, Option.some.injEq, exists_eq_left', exists_eq_left, exists_eq', exists_eq, exists_and_left, exists_and_right, exists_const, List.cons.injEq, and_true, true_and, L2.V.str.injEq, L2.V.int.injEq, L2.V.bl.injEq, L2.V.ref.injEq, PySem.Str.mk.injEq, Tx.arr1, Tx.str_len, Tx.at_nat, Tx.cut_nat, Tx.find_one,
  and_assoc, Int.ofNat_inj, Nat.add_sub_cancel_left, Lx.take1_eq, decide_eq_true_eq, Bool.not_eq_true', decide_eq_false_iff_not, Int.ofNat_lt, Int.ofNat_le, Bool.false_eq_true, if_false, if_true, List.set_cons_zero, List.set_cons_succ, List.append_nil, List.nil_append, ↓reduceIte, Cm.nat_succ, Cm.nat_add, Cm.nat_two, List.toList_toArray, not_true, not_false_iff, Cm.toArr_inj, Cm.two_one, Cm.tyV_str, Cm.scal_ss, Cm.scal_ii, Cm.scal_bb, Cm.cb_K, reduceCtorEq, false_and, exists_false, or_false, false_or, List.map_cons, List.map_nil, rEqF, rSlL, rIxL, gTup, gCons, gNil, rIn]
    obtain ⟨ps, hl, pw⟩ := hw
    refine ⟨by show 0 ≤ sizeLine; decide, ?_⟩
    intro p0 n_p0
    obtain ⟨H1, e_H1, s1, h1⟩ : ∃ Hz, upd H p0 (HO.lst []) = Hz ∧ Same H Hz ∧ Hz p0 = some (HO.lst []) := ⟨_, rfl, same_new n_p0, upd_same⟩
    simp only [e_H1]
    clear e_H1
    refine ⟨_, sqL (s1 _ _ hl), _, sqL h1, flatP_nil _, ?_⟩
    rw [eqLs_nil]
    unfold mayNeg at k
    cases hg : ws.getLast? with
    | none =>
      rw [hg] at k
      have : ws = [] := List.getLast?_eq_none_iff.mp hg
      subst this
      cases pw
      exact k H1 s1
    | some tk =>
      obtain ⟨kd, v, pl⟩ := tk
      rw [hg] at k
      obtain ⟨pa, hpa, hta, hfl, _⟩ := paired_last pw hg
      have hne : (ps.map V.ref).isEmpty = false := by
        cases ps with
        | nil => cases hpa
        | cons a b => rfl
      rw [hne]
      rw [if_neg Bool.false_ne_true]
      refine ⟨_, sqL (s1 _ _ hi), ?_⟩
      intro p1 n_p1
      obtain ⟨H2, e_H2, s2, h2⟩ : ∃ Hz, upd H1 p1 (HO.lst (cutV (wi.map V.bl) (some (-1)) none)) = Hz ∧ Same H1 Hz ∧ Hz p1 = some (HO.lst (cutV (wi.map V.bl) (some (-1)) none)) := ⟨_, rfl, same_new n_p1, upd_same⟩
      simp only [e_H2]
      clear e_H2
      refine ⟨by show 1 ≤ sizeLine; decide, ?_⟩
      intro p2 n_p2
      obtain ⟨H3, e_H3, s3, h3⟩ : ∃ Hz, upd H2 p2 (HO.lst [V.bl true]) = Hz ∧ Same H2 Hz ∧ Hz p2 = some (HO.lst [V.bl true]) := ⟨_, rfl, same_new n_p2, upd_same⟩
      simp only [e_H3]
      clear e_H3
      refine ⟨_, sqL (s3 _ _ h2), _, sqL h3, flat_last _, ?_⟩
      rw [eq_true_last]
      have s13 := (s1.trans s2).trans s3
      split
      · rename_i hx
        have k' := k H3 s13
        dsimp only at k'
        rw [if_pos (of_decide_eq_true hx)] at k'
        exact k'
      · rename_i hx
        have k' := k H3 s13
        dsimp only at k'
        rw [if_neg (fun z => hx (decide_eq_true z))] at k'
        refine ⟨_, sqL (s13 _ _ hl), V.ref pa, ?_, pa, rfl, _, sqT (s13 _ _ hta), rfl, ?_⟩
        · rw [Cm.atI_last, List.getLast?_map, hpa]
          rfl
        refine ⟨_, _, rfl, _, _, rfl, _, _, rfl, rfl, fun c1 hc1 => ⟨_, .inr (hc1 H3), rfl, rfl, ?_⟩⟩
        have hin : inV (S kd) (kENDS.map S) = decide (kd ∈ kENDS) := inV_strs kd kENDS
        rw [hin]
        split
        · rename_i hke
          have hke' : decide (kd ∈ kENDS) = false := hke
          rw [hke'] at k'
          refine ⟨rfl, ?_⟩
          split
          · rename_i hks
            have hks' : kd = kSign := S_inj hks
            refine fun c2 hc2 => ⟨_, .inr (hc2 H3), hfl, rfl, ?_⟩
            rw [decide_eq_true hks'] at k'
            exact k'
          · rename_i hks
            have hks' : ¬ kd = kSign := fun z => hks (by show S kd = _; rw [z]; rfl)
            rw [decide_eq_false hks'] at k'
            exact k'
        · rename_i hke
          have hke' : decide (kd ∈ kENDS) = true := by simpa using hke
          rw [hke'] at k'
          exact k'
theorem ok_note_sign (M : Md P w K mg base CB) : Ok P w K mg base 1 "note_sign" ["within", "kind", "value"] spNote := by
  refine mk M.a_note_sign sc_note_sign (fun _ _ _ _ _ _ us hl => match us, hl with | [_, _, _], _ => rfl) (fun vs H Q E h => ?_) (fun f cdv A outer s H vs Q E hr h => ?_)
  · obtain ⟨i, wi, kd, v, rfl, _⟩ := h
    rfl
  · obtain ⟨i, wi, kd, v, rfl, fv, sv, hi, hl, k⟩ := h
    refine ⟨_, (C8.pss_cut (ps_if (PW.pt (pw_and (pt_cmpR op_eq (pv 1) (pe_strL [115, 105, 103, 110]) (nomark _)) (pw_and1 (pt_cmpR op_in_seq (pv 2) (pe_tup (pa_cons (pe_strL [35, 40]) (pa_cons (pe_strL [40]) pa_nil))) (by rfl))))) (pss_one (ps_expr (pe_bm PySem.F.plainAttrs_list PySem.F.slot_list_append PySem.F.type_list_append mt_append (pv 0) (pa_cons (pe_or (pe_cmpR op_eq (pv 2) (pe_strL [35, 40]) (nomark _)) (pe_one (pe_cmpR (op_eqF hr.units0) (pe_slice sl_list (pv 0) (po_some (pe_un un_neg pe_int)) po_none) (pe_lst (pa_cons pe_bl pa_nil)) (nomark _)))) pa_nil)))) pss_nil)
      (pss_one (ps_if (PW.pt (pw_and (pt_cmpR op_eq (pv 1) (pe_strL [115, 105, 103, 110]) (nomark _)) (pw_and (pt_cmpR op_eq (pv 2) (pe_strL [41]) (nomark _)) (pw_and1 (pt_cmpR (op_neF hr.units0) (pv 0) (pe_lst pa_nil) (nomark _)))))) (pss_one (ps_expr (pe_bm0 PySem.F.plainAttrs_list PySem.F.slot_list_pop PySem.F.type_list_pop mt_pop (pv 0)))) pss_nil))), ?_⟩
    show C8.tCut _ _ _ [some (.ref i), some (S kd), some v] H
    refine ⟨fun σ H' => σ = [some (.ref i), some (S kd), some v] ∧ But i H H' ∧ H' i = some (.lst ((note1 wi kd v).map V.bl)), ?_, ?_⟩
    · simp only [L2.tSeq, L2.tRet, L2.tVar, L2.tAnd, L2.tOr, L2.tNot, L2.tTest, L2.tOp, L2.tUn, L2.rU, L2.tCB, L2.tCons, L2.tNil, L2.rIxS, L2.rI0, L2.rI, L2.rEq, L2.rNe, L2.tAug, L2.ipI, L2.tC, L2.tIfS, L2.tIf, L2.tCall, L2.tAsg, L2.gName, L2.tSl, L2.rSlS, L2.tPart, L2.tNoPart, L2.tBM, L2.tBM0, L2.tB, L2.tAndV, L2.tOrV, L2.tNotV, L2.tDrop, L2.tNext, L2.tChain, L2.tPar, L2.tPar3, Cm.tErr, Cm.tGT, L2.tTup, L2.tLst,
  List.getElem?_cons_zero, List.getElem?_cons_succ, Option.some.injEq, exists_eq_left', exists_eq_left, exists_eq', exists_eq, exists_and_left, exists_and_right, exists_const, List.cons.injEq, and_true, true_and, L2.V.str.injEq, L2.V.int.injEq, L2.V.bl.injEq, L2.V.ref.injEq, PySem.Str.mk.injEq, Tx.arr1, Tx.str_len, Tx.at_nat, Tx.cut_nat, Tx.find_one,
  and_assoc, Int.ofNat_inj, Nat.add_sub_cancel_left, Lx.take1_eq, decide_eq_true_eq, Bool.not_eq_true', decide_eq_false_iff_not, Int.ofNat_lt, Int.ofNat_le, Bool.false_eq_true, if_false, if_true, List.set_cons_zero, List.set_cons_succ, List.append_nil, List.nil_append, ↓reduceIte, Cm.nat_succ, Cm.nat_add, Cm.nat_two, List.toList_toArray, not_true, not_false_iff, Cm.toArr_inj, Cm.two_one, Cm.tyV_str, Cm.scal_ss, Cm.scal_ii, Cm.scal_bb, Cm.cb_K, reduceCtorEq, false_and, exists_false, or_false, false_or, List.map_cons, List.map_nil, rEqF, rSlL, rIxL, rIn, rNeF, rAppend, rPop, sv]
      split
      · rename_i hk
        refine ⟨by show 2 ≤ sizeLine; decide, ?_⟩
        intro p0 n_p0
        obtain ⟨H1, e_H1, s1, h1⟩ : ∃ Hz, upd H p0 (HO.tup [S [35, 40], S [40]]) = Hz ∧ Same H Hz ∧ Hz p0 = some (HO.tup [S [35, 40], S [40]]) := ⟨_, rfl, same_new n_p0, upd_same⟩
        simp only [e_H1]
        clear e_H1
        refine ⟨_, .inr (sqT h1), fv, rfl, ?_⟩
        split
        · rename_i hv
          have hi1 := s1 _ _ hi
          refine ⟨tyV_lst hi1, ?_⟩
          have hc : v = S [35, 40] ∨ v = S [40] := inV_two fv hv
          have en : note1 wi kd v = wi ++ [decide (v = Sv [35, 40]) || decide (wi.getLast? = some true)] := if_pos ⟨hk, hc⟩
          rw [en]
          split
          · rename_i h35
            refine ⟨_, hi1, by rw [List.length_map]; exact Nat.lt_of_le_of_lt hl (by decide), ?_⟩
            obtain ⟨H2, e_H2, s2, h2⟩ : ∃ Hz, upd H1 i (HO.lst (wi.map V.bl ++ [V.bl true])) = Hz ∧ But i H1 Hz ∧ Hz i = some (HO.lst (wi.map V.bl ++ [V.bl true])) := ⟨_, rfl, but_upd, upd_same⟩
            simp only [e_H2]
            clear e_H2
            refine ⟨(Same.but s1).trans s2, ?_⟩
            rw [h2, h35]
            simp
          · rename_i h35
            refine ⟨_, sqL hi1, ?_⟩
            intro p1 n_p1
            obtain ⟨H2, e_H2, s2, h2⟩ : ∃ Hz, upd H1 p1 (HO.lst (cutV (wi.map V.bl) (some (-1)) none)) = Hz ∧ Same H1 Hz ∧ Hz p1 = some (HO.lst (cutV (wi.map V.bl) (some (-1)) none)) := ⟨_, rfl, same_new n_p1, upd_same⟩
            simp only [e_H2]
            clear e_H2
            refine ⟨by show 1 ≤ sizeLine; decide, ?_⟩
            intro p2 n_p2
            obtain ⟨H3, e_H3, s3, h3⟩ : ∃ Hz, upd H2 p2 (HO.lst [V.bl true]) = Hz ∧ Same H2 Hz ∧ Hz p2 = some (HO.lst [V.bl true]) := ⟨_, rfl, same_new n_p2, upd_same⟩
            simp only [e_H3]
            clear e_H3
            refine ⟨_, sqL (s3 _ _ h2), _, sqL h3, flat_last _, ?_⟩
            have s13 := (s1.trans s2).trans s3
            refine ⟨_, s13 _ _ hi, by rw [List.length_map]; exact Nat.lt_of_le_of_lt hl (by decide), ?_⟩
            rw [eq_true_last]
            obtain ⟨H4, e_H4, s4, h4⟩ : ∃ Hz, upd H3 i (HO.lst (wi.map V.bl ++ [V.bl (decide (wi.getLast? = some true))])) = Hz ∧ But i H3 Hz ∧ Hz i = some (HO.lst (wi.map V.bl ++ [V.bl (decide (wi.getLast? = some true))])) := ⟨_, rfl, but_upd, upd_same⟩
            simp only [e_H4]
            clear e_H4
            refine ⟨(Same.but s13).trans s4, ?_⟩
            rw [h4, decide_eq_false h35]
            simp
        · rename_i hv
          have en : note1 wi kd v = wi := if_neg (fun z => inV_two' hv z.2)
          rw [en]
          exact ⟨Same.but s1, s1 _ _ hi⟩
      · rename_i hk
        have en : note1 wi kd v = wi := if_neg (fun z => hk z.1)
        rw [en]
        exact ⟨But.refl, hi⟩
    · rintro σ H' ⟨rfl, hb, h1⟩
      simp only [L2.tSeq, L2.tRet, L2.tVar, L2.tAnd, L2.tOr, L2.tNot, L2.tTest, L2.tOp, L2.tUn, L2.rU, L2.tCB, L2.tCons, L2.tNil, L2.rIxS, L2.rI0, L2.rI, L2.rEq, L2.rNe, L2.tAug, L2.ipI, L2.tC, L2.tIfS, L2.tIf, L2.tCall, L2.tAsg, L2.gName, L2.tSl, L2.rSlS, L2.tPart, L2.tNoPart, L2.tBM, L2.tBM0, L2.tB, L2.tAndV, L2.tOrV, L2.tNotV, L2.tDrop, L2.tNext, L2.tChain, L2.tPar, L2.tPar3, Cm.tErr, Cm.tGT, L2.tTup, L2.tLst,
  List.getElem?_cons_zero, List.getElem?_cons_succ, Option.some.injEq, exists_eq_left', exists_eq_left, exists_eq', exists_eq, exists_and_left, exists_and_right, exists_const, List.cons.injEq, and_true, true_and, L2.V.str.injEq, L2.V.int.injEq, L2.V.bl.injEq, L2.V.ref.injEq, PySem.Str.mk.injEq, Tx.arr1, Tx.str_len, Tx.at_nat, Tx.cut_nat, Tx.find_one,
  and_assoc, Int.ofNat_inj, Nat.add_sub_cancel_left, Lx.take1_eq, decide_eq_true_eq, Bool.not_eq_true', decide_eq_false_iff_not, Int.ofNat_lt, Int.ofNat_le, Bool.false_eq_true, if_false, if_true, List.set_cons_zero, List.set_cons_succ, List.append_nil, List.nil_append, ↓reduceIte, Cm.nat_succ, Cm.nat_add, Cm.nat_two, List.toList_toArray, not_true, not_false_iff, Cm.toArr_inj, Cm.two_one, Cm.tyV_str, Cm.scal_ss, Cm.scal_ii, Cm.scal_bb, Cm.cb_K, reduceCtorEq, false_and, exists_false, or_false, false_or, List.map_cons, List.map_nil, rEqF, rSlL, rIxL, rIn, rNeF, rAppend, rPop, sv]
      rw [note1_eq] at k
      split
      · rename_i hk
        split
        · rename_i hv
          refine ⟨by show 0 ≤ sizeLine; decide, ?_⟩
          intro p0 n_p0
          obtain ⟨H1, e_H1, s1, h2⟩ : ∃ Hz, upd H' p0 (HO.lst []) = Hz ∧ Same H' Hz ∧ Hz p0 = some (HO.lst []) := ⟨_, rfl, same_new n_p0, upd_same⟩
          simp only [e_H1]
          clear e_H1
          refine ⟨_, sqL (s1 _ _ h1), _, sqL h2, flatP_nil _, ?_⟩
          rw [eqLs_nil]
          split
          · rename_i he
            have hne : note1 wi kd v ≠ [] := by
              intro z
              rw [z] at he
              cases he
            rw [if_pos ⟨hk, hv, hne⟩] at k
            refine ⟨tyV_lst (s1 _ _ h1), _, s1 _ _ h1, ?_, ?_⟩
            · refine ⟨_, List.getElem?_eq_getElem ?_⟩
              rw [List.length_map]
              have := List.length_pos_iff.mpr hne
              omega
            · refine k _ (hb.trans ((Same.but s1).trans but_upd)) ?_
              rw [upd_same, List.map_dropLast]
          · rename_i he
            have hne : note1 wi kd v = [] := by
              cases q : note1 wi kd v with
              | nil => rfl
              | cons a b => rw [q] at he; exact absurd rfl he
            rw [if_neg (fun z => z.2.2 hne)] at k
            exact k _ (hb.trans (Same.but s1)) (s1 _ _ h1)
        · rename_i hv
          rw [if_neg (fun z => hv z.2.1)] at k
          exact k _ hb h1
      · rename_i hk
        rw [if_neg (fun z => hk z.1)] at k
        exact k _ hb h1
theorem ok_words_in (M : Md P w K mg base CB) : Ok P w K mg base 8 "words_in" ["text"] (spWordsIn CB) := by
  refine mk M.a_words_in sc_words_in (fun _ _ _ _ _ _ us hl => match us, hl with | [_], _ => rfl) (fun vs H Q E h => ?_) (fun f cdv A outer s H vs Q E hr h => ?_)
  · obtain ⟨t, rfl, _⟩ := h
    rfl
  · obtain ⟨t, rfl, ht, k⟩ := h
    have hz := szl ht
    refine ⟨_, (pss_cons (ps_par3 (i := 1) (j := 2) (l := 3) (by rfl) sc_words_in.nd rfl rfl rfl (by decide) (by decide) (by decide) rfl rfl rfl (pa_cons (pe_lst pa_nil) (pa_cons (pe_lst pa_nil) (pa_cons pe_int pa_nil))) (by rfl))
      (pss_cons (ps_while (passes_of rfl) (pt_cmpR op_lt (pv 3) (pe_callB call_len_str (by rfl) M.g_len PySem.boot_len (pa_cons (pv 0) pa_nil)) (nomark _)) (pss_one (ps_if (pt_cmpR op_in_sign (pe_ix ix_str (pv 0) (pv 3) (fun _ _ => rfl)) (pe_strL [32, 10]) (by rfl)) (pss_one (ps_aug (i := 3) sc_words_in.nd rfl (.inl rfl) pe_int ip_add)) (pss_one (ps_if (pt_cmpR op_eq (pe_ix ix_str (pv 0) (pv 3) (fun _ _ => rfl)) (pe_strL [34]) (nomark _)) (pss_one (ps_asg (pc (ok_comment_end M) (hr.mono (by decide)) (by rfl) psb (pa_cons (pv 0) (pa_cons (pv 3) pa_nil))) (pg_name (i := 3) sc_words_in.nd rfl (.inl rfl)))) (pss_cons (ps_asg (pc (ok_word_at M) (hr.mono (by decide)) (by rfl) psb (pa_cons (pv 0) (pa_cons (pv 3) (pa_cons (pc (ok_may_be_negative M) (hr.mono (by decide)) (by rfl) psb (pa_cons (pv 1) (pa_cons (pv 2) pa_nil))) pa_nil)))) (pg_tup (by rfl) (pgs_cons (pg_name (i := 4) sc_words_in.nd rfl (.inl rfl)) (pgs_cons (pg_name (i := 5) sc_words_in.nd rfl (.inl rfl)) (pgs_cons (pg_name (i := 6) sc_words_in.nd rfl (.inl rfl)) pgs_nil)))))
      (pss_cons (ps_expr (pc (ok_note_sign M) (hr.mono (by decide)) (by rfl) psb (pa_cons (pv 2) (pa_cons (pv 4) (pa_cons (pv 5) pa_nil)))))
      (pss_cons (ps_expr (pe_bm PySem.F.plainAttrs_list PySem.F.slot_list_append PySem.F.type_list_append mt_append (pv 1) (pa_cons (pe_tup (pa_cons (pv 4) (pa_cons (pv 5) (pa_cons (pv 3) pa_nil)))) pa_nil)))
      (pss_one (ps_asg (pv 6) (pg_name (i := 3) sc_words_in.nd rfl (.inl rfl))))))))))))
      (pss_one (ps_ret (pv 1))))), ?_⟩
    show tSeq _ _ _ [some (S t), none, none, none, none, none, none] H
    simp only [L2.tSeq, L2.tRet, L2.tVar, L2.tAnd, L2.tOr, L2.tNot, L2.tTest, L2.tOp, L2.tUn, L2.rU, L2.tCB, L2.tCons, L2.tNil, L2.rIxS, L2.rI0, L2.rI, L2.rEq, L2.rNe, L2.tAug, L2.ipI, L2.tC, L2.tIfS, L2.tIf, L2.tCall, L2.tAsg, L2.gName, L2.tSl, L2.rSlS, L2.tPart, L2.tNoPart, L2.tBM, L2.tBM0, L2.tB, L2.tAndV, L2.tOrV, L2.tNotV, L2.tDrop, L2.tNext, L2.tChain, L2.tPar, L2.tPar3, Cm.tErr, Cm.tGT, L2.tTup, L2.tLst,
  List.getElem?_cons_zero, List.getElem?_cons_succ, Option.some.injEq, exists_eq_left', exists_eq_left, exists_eq', exists_eq, exists_and_left, exists_and_right, exists_const, List.cons.injEq, and_true, true_and, L2.V.str.injEq, L2.V.int.injEq, L2.V.bl.injEq, L2.V.ref.injEq, PySem.Str.mk.injEq, Tx.arr1, Tx.str_len, Tx.at_nat, Tx.cut_nat, Tx.find_one,
  and_assoc, Int.ofNat_inj, Nat.add_sub_cancel_left, Lx.take1_eq, decide_eq_true_eq, Bool.not_eq_true', decide_eq_false_iff_not, Int.ofNat_lt, Int.ofNat_le, Bool.false_eq_true, if_false, if_true, List.set_cons_zero, List.set_cons_succ, List.append_nil, List.nil_append, ↓reduceIte, Cm.nat_succ, Cm.nat_add, Cm.nat_two, List.toList_toArray, not_true, not_false_iff, Cm.toArr_inj, Cm.two_one, Cm.tyV_str, Cm.scal_ss, Cm.scal_ii, Cm.scal_bb, Cm.cb_K, reduceCtorEq, false_and, exists_false, or_false, false_or, List.map_cons, List.map_nil, hz]
    refine ⟨by show 0 ≤ sizeLine; decide, ?_⟩
    intro l n_l
    obtain ⟨H1, e_H1, s1, h1⟩ : ∃ Hz, upd H l (HO.lst []) = Hz ∧ Same H Hz ∧ Hz l = some (HO.lst []) := ⟨_, rfl, same_new n_l, upd_same⟩
    simp only [e_H1]
    clear e_H1
    refine ⟨by show 0 ≤ sizeLine; decide, ?_⟩
    intro i n_i
    obtain ⟨H2, e_H2, s2, h2⟩ : ∃ Hz, upd H1 i (HO.lst []) = Hz ∧ Same H1 Hz ∧ Hz i = some (HO.lst []) := ⟨_, rfl, same_new n_i, upd_same⟩
    simp only [e_H2]
    clear e_H2
    have nil' : H i = none := s1.free n_i
    have nli : l ≠ i := ne_of_none h1 n_i
    refine ⟨WInv t l i H, ⟨_, 0, [], [], none, none, none, rfl, s1.trans s2, ⟨[], s2 _ _ h1, .nil⟩, h2, Nat.le_refl _, Nat.le_refl _, Nat.zero_le _, ?_, rfl⟩, ?_⟩
    · unfold lex
      rw [Nat.sub_zero, List.drop_zero]
    rintro m σ H' ⟨a, ws, wi, v4, v5, v6, rfl, sH, hT, hI, hwl, hil, ha, hx, rfl⟩
    simp only [L2.tSeq, L2.tRet, L2.tVar, L2.tAnd, L2.tOr, L2.tNot, L2.tTest, L2.tOp, L2.tUn, L2.rU, L2.tCB, L2.tCons, L2.tNil, L2.rIxS, L2.rI0, L2.rI, L2.rEq, L2.rNe, L2.tAug, L2.ipI, L2.tC, L2.tIfS, L2.tIf, L2.tCall, L2.tAsg, L2.gName, L2.tSl, L2.rSlS, L2.tPart, L2.tNoPart, L2.tBM, L2.tBM0, L2.tB, L2.tAndV, L2.tOrV, L2.tNotV, L2.tDrop, L2.tNext, L2.tChain, L2.tPar, L2.tPar3, Cm.tErr, Cm.tGT, L2.tTup, L2.tLst,
  List.getElem?_cons_zero, List.getElem?_cons_succ, Option.some.injEq, exists_eq_left', exists_eq_left, exists_eq', exists_eq, exists_and_left, exists_and_right, exists_const, List.cons.injEq, and_true, true_and, L2.V.str.injEq, L2.V.int.injEq, L2.V.bl.injEq, L2.V.ref.injEq, PySem.Str.mk.injEq, Tx.arr1, Tx.str_len, Tx.at_nat, Tx.cut_nat, Tx.find_one,
  and_assoc, Int.ofNat_inj, Nat.add_sub_cancel_left, Lx.take1_eq, decide_eq_true_eq, Bool.not_eq_true', decide_eq_false_iff_not, Int.ofNat_lt, Int.ofNat_le, Bool.false_eq_true, if_false, if_true, List.set_cons_zero, List.set_cons_succ, List.append_nil, List.nil_append, ↓reduceIte, Cm.nat_succ, Cm.nat_add, Cm.nat_two, List.toList_toArray, not_true, not_false_iff, Cm.toArr_inj, Cm.two_one, Cm.tyV_str, Cm.scal_ss, Cm.scal_ii, Cm.scal_bb, Cm.cb_K, reduceCtorEq, false_and, exists_false, or_false, false_or, List.map_cons, List.map_nil, hz]
    split
    · rename_i hlt
      have ex := List.getElem?_eq_getElem hlt
      rw [lex_step hlt] at hx
      refine ⟨_, fun _ _ z => z, _, ex, ?_⟩
      split
      · rename_i hc
        have hc' : t[a] = 32 ∨ t[a] = 10 := by simpa using hc
        rw [if_pos hc'] at hx
        exact ⟨t.length - (a + 1), by omega, a + 1, ws, wi, v4, v5, v6, rfl, sH, hT, hI, by omega, by omega, by omega, hx, rfl⟩
      · rename_i hc
        have hc' : ¬ (t[a] = 32 ∨ t[a] = 10) := by simpa using hc
        rw [if_neg hc'] at hx
        refine ⟨_, ex, ?_⟩
        split
        · rename_i h34
          rw [if_pos h34] at hx
          refine ⟨t, a, rfl, ht, hlt, ?_⟩
          cases hcl : commentLen (t.drop a) with
          | none =>
            rw [hcl] at hx
            rw [← hx] at k
            exact fun d H3 s3 nd hd => k d H3 (sH.trans s3) (sH.free nd) hd
          | some n =>
            rw [hcl] at hx
            have hle := commentLen_le hcl
            rw [List.length_drop] at hle
            exact ⟨t.length - (a + n), by omega, a + n, ws, wi, v4, v5, v6, rfl, sH, hT, hI, by omega, by omega, by omega, hx, rfl⟩
        · rename_i h34
          rw [if_neg h34] at hx
          refine ⟨l, i, ws, wi, rfl, hT, hI, fun H3 s3 => ?_⟩
          refine ⟨t, a, _, rfl, ht, hlt, ?_⟩
          cases hwa : wordAt (t.drop a) (mayNeg ws wi) with
          | none =>
            rw [hwa] at hx
            rw [← hx] at k
            exact fun d H4 s4 nd hd => k d H4 ((sH.trans s3).trans s4) ((sH.trans s3).free nd) hd
          | some tk =>
            obtain ⟨kd, v, n⟩ := tk
            rw [hwa] at hx
            have hle := wordAt_le hwa
            rw [List.length_drop] at hle
            have hv := wordAt_val hwa
            have fv : flatV v = true := by rcases hv with ⟨z, rfl⟩ | ⟨z, rfl⟩ <;> rfl
            have sv : ∀ l, scal v (S l) = true := by rcases hv with ⟨z, rfl⟩ | ⟨z, rfl⟩ <;> (intro _; rfl)
            intro q H4 s4 nq hq
            refine ⟨q, _, rfl, sqT hq, rfl, _, _, rfl, _, _, rfl, _, _, rfl, rfl, ?_⟩
            have s34 := s3.trans s4
            refine ⟨_, rfl, _, rfl, _, rfl, i, wi, kd, v, rfl, fv, sv, s34 _ _ hI, by omega, fun H5 b5 h5 => ?_⟩
            obtain ⟨ps, hl, pw⟩ := hT
            have hl5 : H5 l = some (.lst (ps.map V.ref)) := b5 _ _ nli (s34 _ _ hl)
            refine ⟨_, rfl, tyV_lst hl5, _, rfl, _, rfl, _, rfl, by show 3 ≤ sizeLine; decide, ?_⟩
            intro q2 n_q2
            obtain ⟨H6, e_H6, s6, h6⟩ : ∃ Hz, upd H5 q2 (HO.tup [S kd, v, .int a]) = Hz ∧ Same H5 Hz ∧ Hz q2 = some (HO.tup [S kd, v, .int a]) := ⟨_, rfl, same_new n_q2, upd_same⟩
            simp only [e_H6]
            clear e_H6
            have hpl : ps.length = ws.length := Paired.length pw
            refine ⟨l, _, _, rfl, rfl, s6 _ _ hl5, by rw [List.length_map]; exact Nat.lt_of_le_of_lt (show ps.length ≤ 100000 by omega) (by decide), ?_⟩
            obtain ⟨H7, e_H7, b7, h7⟩ : ∃ Hz, upd H6 l (HO.lst (ps.map V.ref ++ [V.ref q2])) = Hz ∧ But l H6 Hz ∧ Hz l = some (HO.lst (ps.map V.ref ++ [V.ref q2])) := ⟨_, rfl, but_upd, upd_same⟩
            simp only [e_H7]
            clear e_H7
            refine ⟨_, rfl, ?_⟩
            have hkeep : ∀ b o, b ≠ l → b ≠ i → H' b = some o → H7 b = some o := fun b o n1 n2 e => b7 _ _ n1 (s6 _ _ (b5 _ _ n2 (s34 _ _ e)))
            have nl : H l = none := n_l
            refine ⟨t.length - (a + n), by omega, a + n, ws ++ [(kd, v, a)], noteSign wi kd v, _, _, _, rfl, ?_, ?_, ?_, ?_, ?_, by omega, hx, rfl⟩
            · exact fun b o e => hkeep b o (ne_of_none e nl) (ne_of_none e nil') (sH _ _ e)
            · refine ⟨ps ++ [q2], by rw [h7, List.map_append]; rfl, paired_snoc (Cm.Paired.imp (fun p tk h => ?_) pw) ?_⟩
              · obtain ⟨e1, e2, e3⟩ := h
                refine ⟨hkeep _ _ ?_ ?_ e1, e2, e3⟩
                · exact ne_of e1 hl (by intro z; cases z)
                · exact ne_of e1 hI (by intro z; cases z)
              · have nq2 : q2 ≠ l := fun z => by
                  rw [z, hl5] at n_q2
                  cases n_q2
                exact ⟨b7 _ _ nq2 h6, fv, sv⟩
            · exact b7 _ _ (Ne.symm nli) (s6 _ _ h5)
            · rw [List.length_append]
              simp only [List.length_cons, List.length_nil]
              omega
            · have := noteSign_len wi kd v
              omega
    · rename_i hlt
      rw [lex_end (by omega)] at hx
      rw [← hx] at k
      exact k l H' sH n_l hT
end
end W
namespace W
open PySem PySem.Spec PyProof.Rows L2 Cm Lx
def okc (c : Nat) : Bool := (decide (32 ≤ c) && decide (c ≤ 126)) || decide (c = 10)
def spIsW (K : PySem.W.Frag) : Sp := fun vs H Q _ => ∃ v, vs = [v] ∧ ((∃ t, v = S t ∧ BT t ∧ ∀ H', Same H H' → Q (.bl (t.all okc)) H') ∨ ∃ T, TyX K H v (.type T) ∧ kitB T "str" = some false ∧ Q (.bl false) H)
def lexRes (CB : Addr) (H : Hp) (Q : VK) (E : XK) : Except Int Toks → Prop
  | .ok ws => ∀ l H', Same H H' → H l = none → ToksAt H' l ws → Q (.ref l) H'
  | .error p => ∀ d H', Same H H' → H d = none → H' d = some (.xd [("place", .int p)]) → E (.ref CB) (some d) H'
def wordsOf (t : List Nat) : Except Int Toks := if t.all okc = true ∧ t.length ≤ 2000 then (match lex t with
  | .ok ws => .ok ws
  | .error p => .error (p : Int)) else .error (-1)
def spWordsOf (K : PySem.W.Frag) (CB : Addr) : Sp := fun vs H Q E => ∃ v, vs = [v] ∧ ((∃ t, v = S t ∧ BT t ∧ lexRes CB H Q E (wordsOf t)) ∨ ∃ T, TyX K H v (.type T) ∧ kitB T "str" = some false ∧ lexRes CB H Q E (.error (-1)))
theorem lt1 {a b : Nat} : ([a] : List Nat) < [b] ↔ a < b := by simp [List.cons_lt_cons_iff]
section
variable {P : Program} {w : World} {K : PySem.W.Frag} {mg : Str → Option Value} {base : Heap} {CB : Addr}
theorem ok_is_written (M : Md P w K mg base CB) : Ok P w K mg base 1 "is_written" ["thing"] (spIsW K) := by
  refine mk M.a_is_written sc_is_written (fun _ _ _ _ _ _ us hl => match us, hl with | [_], _ => rfl) (fun vs H Q E h => ?_) (fun f cdv A outer s H vs Q E hr h => ?_)
  · obtain ⟨v, rfl, _⟩ := h
    rfl
  · obtain ⟨v, rfl, h⟩ := h
    refine ⟨_, (pss_one (ps_ret (pe_and (pe_callB call_isi (by rfl) M.g_isinstance (by decide +kernel) (pa_cons (pv 0) (pa_cons (pe_bltn (v := .ty "str") (by rfl) M.g_str (by decide +kernel) rfl) pa_nil))) (pe_one (pe_callB (cr_all rfl) (by rfl) M.g_all (by decide +kernel) (pa_cons (pe_lc (own := [("sign", 1)]) (g := (gName 1)) (by rfl) sc_is_written.nd (pi_str (pv 0)) (blkOk_by (own := [("sign", 1)]) (N := ["thing", "sign"]) (sc := defScope s_is_written) (by decide +kernel)) (fun _ _ _ _ _ => pg_name (i := 1) sc_is_written.nd rfl (Or.inl rfl)) (fun _ _ _ _ _ => pts_nil) (fun _ _ _ _ _ => (pe_or (pe_chain op_le_str op_le_str (pe_strL [32]) (pv 1) (pe_strL [126])) (pe_one (pe_cmpR op_eq (pv 1) (pe_strL [10]) (nomark _)))))) pa_nil)))))), ?_⟩
    show tRet _ _ [some v, none] H
    refine ⟨_, rfl, ?_⟩
    rcases h with ⟨t, rfl, ht, k⟩ | ⟨T, hT, hk, k⟩
    · have hz := szl ht
      refine ⟨_, _, _, _, true, rfl, .ty "str", .base (.str _), kit_ty (a := "str") (by decide +kernel), _, rfl, ?_⟩
      refine iteT ?_
      refine ⟨_, rfl, _, rfl, fun D hD => lc_it walk_str (fun i H' => Same H H' ∧ H' D = some (.lst ((t.take i).map fun c => V.bl (okc c)))) ⟨same_new hD, upd_same⟩ (fun _ _ _ _ => trivial) ?_ ?_⟩
      · rintro i x H1 H2 hi ⟨s1, h1⟩ ⟨rfl, c, hc, rfl⟩
        have hc' : t[i]? = some c := by simpa using hc
        have hil : i < t.length := (List.getElem?_eq_some_iff.mp hc').1
        refine ⟨rfl, ?_⟩
        have ew : (List.set (wipe [some (S t), none] (List.map (fun x => x.snd) [((Str.ofString "sign" : Str), 1)])) 1 (some (V.str ⟨#[c]⟩))) = [some (S t), some (V.str ⟨#[c]⟩)] := rfl
        have fin : ∀ b : Bool, b = okc c → ∃ acc, H2 D = some (.lst acc) ∧ acc.length < sizeLine ∧ Same H (upd H2 D (.lst (acc ++ [V.bl b]))) ∧ upd H2 D (.lst (acc ++ [V.bl b])) D = some (.lst ((t.take (i + 1)).map fun c => V.bl (okc c))) := fun b hb => by
          refine ⟨_, h1, ?_, ?_, ?_⟩
          · rw [List.length_map, List.length_take]
            exact Nat.lt_of_le_of_lt (show min i t.length ≤ 100000 by omega) (by decide)
          · exact fun b o e => by
              rw [upd_ne (ne_of_none e hD)]
              exact s1 _ _ e
          · rw [upd_same, hb, List.take_add_one, hc', List.map_append]
            rfl
        have ew2 : (List.set (wipe [some (S t), none] [1]) 1 (some (V.str ⟨#[c]⟩))) = [some (S t), some (V.str ⟨#[c]⟩)] := rfl
        simp only [L2.tSeq, L2.tRet, L2.tVar, L2.tAnd, L2.tOr, L2.tNot, L2.tTest, L2.tOp, L2.tUn, L2.rU, L2.tCB, L2.tCons, L2.tNil, L2.rIxS, L2.rI0, L2.rI, L2.rEq, L2.rNe, L2.tAug, L2.ipI, L2.tC, L2.tIfS, L2.tIf, L2.tCall, L2.tAsg, L2.gName, L2.tSl, L2.rSlS, L2.tPart, L2.tNoPart, L2.tBM, L2.tBM0, L2.tB, L2.tAndV, L2.tOrV, L2.tNotV, L2.tDrop, L2.tNext, L2.tChain, L2.tPar, L2.tPar3, Cm.tErr, Cm.tGT, L2.tTup, L2.tLst,
  List.getElem?_cons_zero, List.getElem?_cons_succ, Option.some.injEq, exists_eq_left', exists_eq_left, exists_eq', exists_eq, exists_and_left, exists_and_right, exists_const, List.cons.injEq, and_true, true_and, L2.V.str.injEq, L2.V.int.injEq, L2.V.bl.injEq, L2.V.ref.injEq, PySem.Str.mk.injEq, Tx.arr1, Tx.str_len, Tx.at_nat, Tx.cut_nat, Tx.find_one,
  and_assoc, Int.ofNat_inj, Nat.add_sub_cancel_left, Lx.take1_eq, decide_eq_true_eq, Bool.not_eq_true', decide_eq_false_iff_not, Int.ofNat_lt, Int.ofNat_le, Bool.false_eq_true, if_false, if_true, List.set_cons_zero, List.set_cons_succ, List.append_nil, List.nil_append, ↓reduceIte, Cm.nat_succ, Cm.nat_add, Cm.nat_two, List.toList_toArray, not_true, not_false_iff, Cm.toArr_inj, Cm.two_one, Cm.tyV_str, Cm.scal_ss, Cm.scal_ii, Cm.scal_bb, Cm.cb_K, reduceCtorEq, false_and, exists_false, or_false, false_or, List.map_cons, List.map_nil, lt1, tYes, ew, ew2]
        unfold okc at fin
        split
        · rename_i h32
          split
          · rename_i h126
            refine fin true ?_
            rw [decide_eq_true (show 32 ≤ c by omega), decide_eq_true (show c ≤ 126 by omega)]
            rfl
          · rename_i h126
            refine fin _ ?_
            rw [decide_eq_false (show ¬ c ≤ 126 by omega), Bool.and_false, Bool.false_or]
        · rename_i h32
          refine fin _ ?_
          rw [decide_eq_false (show ¬ 32 ≤ c by omega), Bool.false_and, Bool.false_or]
      · rintro H1 ⟨s1, h1⟩
        have e : List.take (⟨t.toArray⟩ : Str).cps.size t = t := List.take_of_length_le (by simp)
        rw [e] at h1
        refine ⟨D, t.map okc, rfl, sqL (by rw [h1, List.map_map]; rfl), ?_⟩
        have e2 : (t.map okc).all id = t.all okc := by rw [List.all_map]; rfl
        rw [e2]
        exact k H1 s1
    · refine ⟨_, _, _, _, false, rfl, .ty "str", hT, kit_ty hk, _, rfl, ?_⟩
      exact iteF k
theorem ok_words_of (M : Md P w K mg base CB) : Ok P w K mg base 9 "words_of" ["source"] (spWordsOf K CB) := by
  refine mk M.a_words_of sc_words_of (fun _ _ _ _ _ _ us hl => match us, hl with | [_], _ => rfl) (fun vs H Q E h => ?_) (fun f cdv A outer s H vs Q E hr h => ?_)
  · obtain ⟨v, rfl, _⟩ := h
    rfl
  · obtain ⟨v, rfl, h⟩ := h
    refine ⟨_, (pss_cons (ps_if (PW.pt (pw_or (pt_not (pt_val (pc (ok_is_written M) (hr.mono (by decide)) (by rfl) psb (pa_cons (pv 0) pa_nil)))) (pw_or1 (pt_cmpR op_gt (pe_callB call_len_str (by rfl) M.g_len PySem.boot_len (pa_cons (pv 0) pa_nil)) (pn_int (by rfl) M.c_MOST_SIGNS) (nomark _))))) (pss_one (ps_raise rfl tkb (pmk1 M.x_BadSource hr (by rfl) (pe_un un_neg pe_int)))) pss_nil)
      (pss_one (ps_ret (pc (ok_words_in M) (hr.mono (by decide)) (by rfl) psb (pa_cons (pv 0) pa_nil))))), ?_⟩
    show tSeq _ _ _ [some v] H
    simp only [L2.tSeq, L2.tRet, L2.tVar, L2.tAnd, L2.tOr, L2.tNot, L2.tTest, L2.tOp, L2.tUn, L2.rU, L2.tCB, L2.tCons, L2.tNil, L2.rIxS, L2.rI0, L2.rI, L2.rEq, L2.rNe, L2.tAug, L2.ipI, L2.tC, L2.tIfS, L2.tIf, L2.tCall, L2.tAsg, L2.gName, L2.tSl, L2.rSlS, L2.tPart, L2.tNoPart, L2.tBM, L2.tBM0, L2.tB, L2.tAndV, L2.tOrV, L2.tNotV, L2.tDrop, L2.tNext, L2.tChain, L2.tPar, L2.tPar3, Cm.tErr, Cm.tGT, L2.tTup, L2.tLst,
  List.getElem?_cons_zero, List.getElem?_cons_succ, Option.some.injEq, exists_eq_left', exists_eq_left, exists_eq', exists_eq, exists_and_left, exists_and_right, exists_const, List.cons.injEq, and_true, true_and, L2.V.str.injEq, L2.V.int.injEq, L2.V.bl.injEq, L2.V.ref.injEq, PySem.Str.mk.injEq, Tx.arr1, Tx.str_len, Tx.at_nat, Tx.cut_nat, Tx.find_one,
  and_assoc, Int.ofNat_inj, Nat.add_sub_cancel_left, Lx.take1_eq, decide_eq_true_eq, Bool.not_eq_true', decide_eq_false_iff_not, Int.ofNat_lt, Int.ofNat_le, Bool.false_eq_true, if_false, if_true, List.set_cons_zero, List.set_cons_succ, List.append_nil, List.nil_append, ↓reduceIte, Cm.nat_succ, Cm.nat_add, Cm.nat_two, List.toList_toArray, not_true, not_false_iff, Cm.toArr_inj, Cm.two_one, Cm.tyV_str, Cm.scal_ss, Cm.scal_ii, Cm.scal_bb, Cm.cb_K, reduceCtorEq, false_and, exists_false, or_false, false_or, List.map_cons, List.map_nil]
    rcases h with ⟨t, rfl, ht, k⟩ | ⟨T, hT, hk, k⟩
    · have hz := szl ht
      refine ⟨_, rfl, .inl ⟨t, rfl, ht, fun H1 s1 => ⟨_, rfl, ?_⟩⟩⟩
      unfold wordsOf at k
      split
      · rename_i hc
        rw [if_neg (fun z => by rw [hc] at z; exact Bool.false_ne_true z.1)] at k
        exact fun d nd => k d _ (s1.trans (same_new nd)) (s1.free nd) upd_same
      · rename_i hc
        have hc' : t.all okc = true := by simpa using hc
        refine ⟨_, rfl, hz, ?_⟩
        split
        · rename_i hl
          rw [if_neg (fun z => by have h2 := z.2; rw [Tx.str_len] at hl; omega)] at k
          exact fun d nd => k d _ (s1.trans (same_new nd)) (s1.free nd) upd_same
        · rename_i hl
          rw [if_pos ⟨hc', by rw [Tx.str_len] at hl; omega⟩] at k
          refine ⟨t, rfl, ht, ?_⟩
          cases q : lex t with
          | ok ws =>
            rw [q] at k
            exact fun l H2 s2 nl hT => k l H2 (s1.trans s2) (s1.free nl) hT
          | error p =>
            rw [q] at k
            exact fun d H2 s2 nd hd => k d H2 (s1.trans s2) (s1.free nd) hd
    · refine ⟨_, rfl, .inr ⟨T, hT, hk, _, rfl, ?_⟩⟩
      rw [if_pos rfl]
      exact fun d nd => k d _ (same_new nd) nd upd_same
end
end W
namespace W
open PySem PySem.Spec PyProof.Rows L2 Cm Lx
abbrev s__law_bag : Stmt := topS 36
theorem sc__law_bag : FnScope ["_law_script", "_law_k", "_law_cell"] ["_law_script", "_law_k"] (defScope s__law_bag) := ⟨rfl, rfl, rfl, by decide +kernel, rfl, by decide +kernel, by decide +kernel⟩
abbrev s__law_take : Stmt := topS 37
theorem sc__law_take : FnScope ["_law_bag_here", "_law_many", "_law_found", "_law_mark"] ["_law_bag_here", "_law_many"] (defScope s__law_take) := ⟨rfl, rfl, rfl, by decide +kernel, rfl, by decide +kernel, by decide +kernel⟩
abbrev s__law_pick : Stmt := topS 38
theorem sc__law_pick : FnScope ["_law_bag_here", "_law_things"] ["_law_bag_here", "_law_things"] (defScope s__law_pick) := ⟨rfl, rfl, rfl, by decide +kernel, rfl, by decide +kernel, by decide +kernel⟩
structure Mb (K : PySem.W.Frag) (mg : Str → Option Value) : Prop where
  a__law_bag : At K mg "_law_bag" s__law_bag
  a__law_take : At K mg "_law_take" s__law_take
  a__law_pick : At K mg "_law_pick" s__law_pick
  g_len : mg "len" = none
  g_max : mg "max" = none
  g_int : mg "int" = none
  g_sum : mg "sum" = none
def spBag (K : PySem.W.Frag) : Sp := fun vs H Q _ => ∃ (a : Addr) (ns : List Int) (k : Int), vs = [.ref a, .int k] ∧ SqL K H a (ns.map V.int) ∧ 0 ≤ k ∧ k ≤ 1000 ∧
  ∀ p H' A B, Same H H' → H p = none → H' p = some (.lst [.int A, .int B, .int (61 * k)]) → 0 ≤ B → B < 10 ^ 41 → Q (.ref p) H'
def spTake : Sp := fun vs H Q _ => ∃ (p : Addr) (A B C many : Int), vs = [.ref p, .int many] ∧ H p = some (.lst [.int A, .int B, .int C]) ∧ 0 ≤ B ∧ B < 10 ^ 41 ∧ 0 ≤ C ∧ C ≤ 10 ^ 9 ∧ 0 < many ∧ many ≤ 10 ^ 8 ∧
  ∀ n A' C' H', But p H H' → H' p = some (.lst [.int A', .int B, .int C']) → 0 ≤ n → n < many → C ≤ C' → C' ≤ C + 1 → Q (.int n) H'
section
variable {P : Program} {w : World} {K : PySem.W.Frag} {mg : Str → Option Value} {base : Heap}
theorem ok__law_bag (M : Mb K mg) : Ok P w K mg base 1 "_law_bag" ["_law_script", "_law_k"] (spBag K) := by
  refine mk M.a__law_bag sc__law_bag (fun _ _ _ _ _ _ us hl => match us, hl with | [_, _], _ => rfl) (fun vs H Q E h => ?_) (fun f cdv A outer s H vs Q E hr h => ?_)
  · obtain ⟨a, ns, k, rfl, _⟩ := h
    rfl
  · obtain ⟨a, ns, k, rfl, hs, hk0, hk1, kk⟩ := h
    refine ⟨_, (pss_cons (ps_asg (pe_op op_modN (pe_callTy call_intI (by rfl) M.g_int (by decide +kernel) (pa_cons (pe_callB (cr_sum rfl) (by rfl) M.g_sum (by decide +kernel) (pa_cons (pe_slice sl_list (pv 0) po_none (po_some pe_int)) pa_nil)) pa_nil)) pe_int) (pg_name (i := 2) sc__law_bag.nd rfl (.inl rfl)))
      (pss_cons (ps_if (pt_cmpR op_lt (pv 1) (pe_callB call_len_seq (by rfl) M.g_len PySem.boot_len (pa_cons (pv 0) pa_nil)) (nomark _)) (pss_one (ps_asg (pe_ix ix_list (pv 0) (pv 1) (fun _ _ => rfl)) (pg_name (i := 2) sc__law_bag.nd rfl (.inl rfl)))) pss_nil)
      (pss_one (ps_ret (pe_lst (pa_cons (pe_callB (call_max2 rfl) (by rfl) M.g_max (by decide +kernel) (pa_cons pe_int (pa_cons (pe_op op_sub (pv 2) (pe_op op_pow pe_int pe_int)) pa_nil))) (pa_cons (pe_op op_modN (pe_callTy call_intI (by rfl) M.g_int (by decide +kernel) (pa_cons (pv 2) pa_nil)) (pe_op op_add (pe_op op_pow pe_int pe_int) pe_int)) (pa_cons (pe_op op_mulW pe_int (pv 1)) pa_nil)))))))), ?_⟩
    show tSeq _ _ _ [some (.ref a), some (.int k), none] H
    simp only [L2.tSeq, L2.tRet, L2.tVar, L2.tAnd, L2.tOr, L2.tNot, L2.tTest, L2.tOp, L2.tUn, L2.rU, L2.tCB, L2.tCons, L2.tNil, L2.rIxS, L2.rI0, L2.rI, L2.rEq, L2.rNe, L2.tAug, L2.ipI, L2.tC, L2.tIfS, L2.tIf, L2.tCall, L2.tAsg, L2.gName, L2.tSl, L2.rSlS, L2.tPart, L2.tNoPart, L2.tBM, L2.tBM0, L2.tB, L2.tAndV, L2.tOrV, L2.tNotV, L2.tDrop, L2.tNext, L2.tChain, L2.tPar, L2.tPar3, Cm.tErr, Cm.tGT, L2.tTup, L2.tLst,
  List.getElem?_cons_zero, List.getElem?_cons_succ, Option.some.injEq, exists_eq_left', exists_eq_left, exists_eq', exists_eq, exists_and_left, exists_and_right, exists_const, List.cons.injEq, and_true, true_and, L2.V.str.injEq, L2.V.int.injEq, L2.V.bl.injEq, L2.V.ref.injEq, PySem.Str.mk.injEq, Tx.arr1, Tx.str_len, Tx.at_nat, Tx.cut_nat, Tx.find_one,
  and_assoc, Int.ofNat_inj, Nat.add_sub_cancel_left, Lx.take1_eq, decide_eq_true_eq, Bool.not_eq_true', decide_eq_false_iff_not, Int.ofNat_lt, Int.ofNat_le, Bool.false_eq_true, if_false, if_true, List.set_cons_zero, List.set_cons_succ, List.append_nil, List.nil_append, ↓reduceIte, Cm.nat_succ, Cm.nat_add, Cm.nat_two, List.toList_toArray, not_true, not_false_iff, Cm.toArr_inj, Cm.two_one, Cm.tyV_str, Cm.scal_ss, Cm.scal_ii, Cm.scal_bb, Cm.cb_K, reduceCtorEq, false_and, exists_false, or_false, false_or, List.map_cons, List.map_nil, rSlL, rSum, rIxL]
    refine ⟨_, hs, ?_⟩
    intro p0 n_p0
    obtain ⟨H1, e_H1, s1, h1⟩ : ∃ Hz, upd H p0 (HO.lst (cutV (ns.map V.int) none (some 1))) = Hz ∧ Same H Hz ∧ Hz p0 = some (HO.lst (cutV (ns.map V.int) none (some 1))) := ⟨_, rfl, same_new n_p0, upd_same⟩
    simp only [e_H1]
    clear e_H1
    have e1 : cutV (ns.map V.int) none (some 1) = (ns.take 1).map V.int := by rw [show (1 : Int) = ((1 : Nat) : Int) from rfl, cutV_to, List.map_take]
    rw [e1] at h1
    have hs1 := s1.seq hs
    have fin : ∀ cell : Int, CPow 10 18 ∧ CPow 10 40 ∧ (10 ^ Int.toNat 40 + 121 : Int) ≠ 0 ∧ CMulW 61 k ∧ [V.int (if cell - 10 ^ Int.toNat 18 > 0 then cell - 10 ^ Int.toNat 18 else 0), V.int (cell.fmod (10 ^ Int.toNat 40 + 121)), V.int (61 * k)].length ≤ sizeLine ∧
        ∀ p, H1 p = none → Q (.ref p) (upd H1 p (.lst [V.int (if cell - 10 ^ Int.toNat 18 > 0 then cell - 10 ^ Int.toNat 18 else 0), V.int (cell.fmod (10 ^ Int.toNat 40 + 121)), V.int (61 * k)])) := fun cell => by
      refine ⟨⟨by decide, by decide, by decide⟩, ⟨by decide, by decide, by decide⟩, by decide, wide_mul (a := 10) (b := 12) (by decide) (by omega) (by decide) (by decide) (by decide), by show 3 ≤ sizeLine; decide, fun p hp => ?_⟩
      exact kk p _ _ _ (s1.trans (same_new hp)) (s1.free hp) upd_same (fmod_nn (by decide)) (Int.lt_of_lt_of_le (fmod_ub (by decide)) (by decide))
    refine ⟨_, sqL h1, by decide, _, .inl hs1, ?_⟩
    split
    · rename_i hlt
      rw [List.length_map] at hlt
      obtain ⟨m, rfl⟩ : ∃ m : Nat, k = (m : Int) := ⟨k.toNat, by omega⟩
      have hm : m < ns.length := by omega
      obtain ⟨a1, a2, a3, a4, a5, a6⟩ := fin ns[m]
      exact ⟨_, hs1, V.int ns[m], by rw [Tx.at_nat, List.getElem?_map, List.getElem?_eq_getElem hm]; rfl, a1, _, rfl, _, rfl, a2, a3, a4, a5, a6⟩
    · exact fin _
theorem ok__law_take (M : Mb K mg) : Ok P w K mg base 1 "_law_take" ["_law_bag_here", "_law_many"] spTake := by
  refine mk M.a__law_take sc__law_take (fun _ _ _ _ _ _ us hl => match us, hl with | [_, _], _ => rfl) (fun vs H Q E h => ?_) (fun f cdv A outer s H vs Q E hr h => ?_)
  · obtain ⟨p, A, B, C, many, rfl, _⟩ := h
    rfl
  · obtain ⟨p, A, B, C, many, rfl, hb, b0, b1, c0, c1, m0, m1, kk⟩ := h
    refine ⟨_, (pss_cons (ps_if (pt_cmpR op_gt (pe_ix ix_list (pv 0) pe_int (fun _ _ => rfl)) pe_int (nomark _)) (pss_cons (ps_asg (pe_op op_modN (pe_callTy call_intI (by rfl) M.g_int (by decide +kernel) (pa_cons (pe_ix ix_list (pv 0) pe_int (fun _ _ => rfl)) pa_nil)) (pv 1)) (pg_name (i := 2) sc__law_take.nd rfl (.inl rfl)))
      (pss_cons (ps_asg (pe_op op_fdivW (pe_ix ix_list (pv 0) pe_int (fun _ _ => rfl)) (pv 1)) (pg_sub (pv 0) pe_int set_list))
      (pss_one (ps_ret (pv 2))))) pss_nil)
      (pss_cons (ps_asg (pe_op op_add (pe_ix ix_list (pv 0) pe_int (fun _ _ => rfl)) pe_int) (pg_sub (pv 0) pe_int set_list))
      (pss_cons (ps_asg (pe_op op_add (pe_op op_mulW (pe_op op_add (pe_ix ix_list (pv 0) pe_int (fun _ _ => rfl)) pe_int) (pe_op op_add (pe_op op_mulW pe_int (pe_ix ix_list (pv 0) pe_int (fun _ _ => rfl))) pe_int)) (pe_op op_mulW (pe_op op_mulW pe_int (pe_ix ix_list (pv 0) pe_int (fun _ _ => rfl))) (pe_ix ix_list (pv 0) pe_int (fun _ _ => rfl)))) (pg_name (i := 3) sc__law_take.nd rfl (.inl rfl)))
      (pss_cons (ps_asg (pe_op op_modN (pe_callTy call_intI (by rfl) M.g_int (by decide +kernel) (pa_cons (pe_op op_mulW (pv 3) (pv 3)) pa_nil)) (pe_op op_add (pe_op op_pow pe_int pe_int) pe_int)) (pg_name (i := 3) sc__law_take.nd rfl (.inl rfl)))
      (pss_cons (ps_asg (pe_op op_modN (pe_callTy call_intI (by rfl) M.g_int (by decide +kernel) (pa_cons (pe_op op_mulW (pv 3) (pe_op op_add (pv 3) pe_int)) pa_nil)) (pe_op op_add (pe_op op_pow pe_int pe_int) pe_int)) (pg_name (i := 3) sc__law_take.nd rfl (.inl rfl)))
      (pss_one (ps_ret (pe_op op_modN (pe_callTy call_intI (by rfl) M.g_int (by decide +kernel) (pa_cons (pe_op op_fdivW (pv 3) pe_int) pa_nil)) (pv 1))))))))), ?_⟩
    show tSeq _ _ _ [some (.ref p), some (.int many), none, none] H
    simp only [L2.tSeq, L2.tRet, L2.tVar, L2.tAnd, L2.tOr, L2.tNot, L2.tTest, L2.tOp, L2.tUn, L2.rU, L2.tCB, L2.tCons, L2.tNil, L2.rIxS, L2.rI0, L2.rI, L2.rEq, L2.rNe, L2.tAug, L2.ipI, L2.tC, L2.tIfS, L2.tIf, L2.tCall, L2.tAsg, L2.gName, L2.tSl, L2.rSlS, L2.tPart, L2.tNoPart, L2.tBM, L2.tBM0, L2.tB, L2.tAndV, L2.tOrV, L2.tNotV, L2.tDrop, L2.tNext, L2.tChain, L2.tPar, L2.tPar3, Cm.tErr, Cm.tGT, L2.tTup, L2.tLst,
  List.getElem?_cons_zero, List.getElem?_cons_succ, Option.some.injEq, exists_eq_left', exists_eq_left, exists_eq', exists_eq, exists_and_left, exists_and_right, exists_const, List.cons.injEq, and_true, true_and, L2.V.str.injEq, L2.V.int.injEq, L2.V.bl.injEq, L2.V.ref.injEq, PySem.Str.mk.injEq, Tx.arr1, Tx.str_len, Tx.at_nat, Tx.cut_nat, Tx.find_one,
  and_assoc, Int.ofNat_inj, Nat.add_sub_cancel_left, Lx.take1_eq, decide_eq_true_eq, Bool.not_eq_true', decide_eq_false_iff_not, Int.ofNat_lt, Int.ofNat_le, Bool.false_eq_true, if_false, if_true, List.set_cons_zero, List.set_cons_succ, List.append_nil, List.nil_append, ↓reduceIte, Cm.nat_succ, Cm.nat_add, Cm.nat_two, List.toList_toArray, not_true, not_false_iff, Cm.toArr_inj, Cm.two_one, Cm.tyV_str, Cm.scal_ss, Cm.scal_ii, Cm.scal_bb, Cm.cb_K, reduceCtorEq, false_and, exists_false, or_false, false_or, List.map_cons, List.map_nil, rSlL, rSum, rIxL, gSub, rSetL]
    refine ⟨_, sqL hb, V.int A, rfl, A, rfl, ?_⟩
    split
    · rename_i hA
      refine ⟨_, sqL hb, V.int A, rfl, A, rfl, by omega, _, sqL hb, V.int A, rfl, A, rfl, wide_div m0 (b := 27) (by omega) (by decide) (by decide), _, hb, 0, rfl, ?_⟩
      exact kk _ _ C _ but_upd upd_same (fmod_nn m0) (fmod_ub m0) (Int.le_refl _) (by omega)
    · rename_i hA
      refine ⟨_, sqL hb, V.int C, rfl, C, rfl, _, hb, 2, rfl, ?_⟩
      obtain ⟨H1, e_H1, s1, h1⟩ : ∃ Hz, upd H p (HO.lst ([V.int A, V.int B, V.int C].set 2 (V.int (C + 1)))) = Hz ∧ But p H Hz ∧ Hz p = some (HO.lst ([V.int A, V.int B, V.int C].set 2 (V.int (C + 1)))) := ⟨_, rfl, but_upd, upd_same⟩
      simp only [e_H1]
      clear e_H1
      have h1' : H1 p = some (.lst [.int A, .int B, .int (C + 1)]) := h1
      have d1 : (C + 1).natAbs < 2 ^ 31 := by omega
      have d2 : (30011 * (C + 1) + 7).natAbs < 2 ^ 46 := by omega
      have d3 : (104729 * (C + 1)).natAbs < 2 ^ 48 := by omega
      have d4 : (B + 1).natAbs < 2 ^ 137 := by omega
      have m1 := wide_lt d4 d2
      have m2 := wide_lt d3 d1
      have m3 : ((B + 1) * (30011 * (C + 1) + 7) + 104729 * (C + 1) * (C + 1)).natAbs < 2 ^ 200 := by
        have t := Int.natAbs_add_le ((B + 1) * (30011 * (C + 1) + 7)) (104729 * (C + 1) * (C + 1))
        have q1 : (2 : Nat) ^ (137 + 46) + 2 ^ (48 + 31) ≤ 2 ^ 200 := by decide
        omega
      refine ⟨_, sqL h1', V.int B, rfl, B, rfl, _, sqL h1', V.int (C + 1), rfl, C + 1, rfl, wide_mul (a := 15) (by decide) d1 (by decide) (by decide) (by decide), wide_mul d4 d2 (by decide) (by decide) (by decide), _, sqL h1', V.int (C + 1), rfl, C + 1, rfl, wide_mul (a := 17) (by decide) d1 (by decide) (by decide) (by decide),
        _, sqL h1', V.int (C + 1), rfl, C + 1, rfl, wide_mul d3 d1 (by decide) (by decide) (by decide), ?_⟩
      generalize (B + 1) * (30011 * (C + 1) + 7) + 104729 * (C + 1) * (C + 1) = x at m3 ⊢
      refine ⟨wide_mul m3 m3 (by decide) (by decide) (by decide), ⟨by decide, by decide, by decide⟩, by decide, ?_⟩
      have y0 : 0 ≤ (x * x).fmod (10 ^ Int.toNat 41 + 37) := fmod_nn (by decide)
      have y1 : (x * x).fmod (10 ^ Int.toNat 41 + 37) < 10 ^ Int.toNat 41 + 37 := fmod_ub (by decide)
      generalize (x * x).fmod (10 ^ Int.toNat 41 + 37) = y at y0 y1 ⊢
      have y2 : y < 10 ^ 42 := Int.lt_trans y1 (by decide)
      refine ⟨wide_mul (a := 150) (b := 150) (by omega) (by omega) (by decide) (by decide) (by decide), ⟨by decide, by decide, by decide⟩, by decide, wide_div (by decide) (b := 20) (by decide) (by decide) (by decide), by omega, ?_⟩
      exact kk _ A _ _ s1 h1' (fmod_nn m0) (fmod_ub m0) (by omega) (Int.le_refl _)
def spPick (K : PySem.W.Frag) : Sp := fun vs H Q _ => ∃ (p c : Addr) (A B C : Int) (xs : List V), vs = [.ref p, .ref c] ∧ H p = some (.lst [.int A, .int B, .int C]) ∧ 0 ≤ B ∧ B < 10 ^ 41 ∧ 0 ≤ C ∧ C ≤ 10 ^ 9 ∧ SqL K H c xs ∧ c ≠ p ∧ 0 < xs.length ∧ xs.length ≤ 100000 ∧
  ∀ (i : Nat) x A' C' H', But p H H' → H' p = some (.lst [.int A', .int B, .int C']) → xs[i]? = some x → C ≤ C' → C' ≤ C + 1 → Q x H'
theorem but_seq {K : PySem.W.Frag} {p a : Addr} {H H' : Hp} {xs : List V} (b : But p H H') (n : a ≠ p) (h : SqL K H a xs) : SqL K H' a xs := by
  rcases h with (h | ⟨o, h⟩) | h
  · exact .inl (.inl (b _ _ n h))
  · exact .inl (.inr ⟨o, b _ _ n h⟩)
  · exact .inr h
theorem ok__law_pick (M : Mb K mg) : Ok P w K mg base 2 "_law_pick" ["_law_bag_here", "_law_things"] (spPick K) := by
  refine mk M.a__law_pick sc__law_pick (fun _ _ _ _ _ _ us hl => match us, hl with | [_, _], _ => rfl) (fun vs H Q E h => ?_) (fun f cdv A outer s H vs Q E hr h => ?_)
  · obtain ⟨p, c, A, B, C, xs, rfl, _⟩ := h
    rfl
  · obtain ⟨p, c, A, B, C, xs, rfl, hb, b0, b1, c0, c1, hx, ncp, l0, l1, kk⟩ := h
    refine ⟨_, (pss_one (ps_ret (pe_ix ix_seq (pv 1) (pc (ok__law_take M) (hr.mono (by decide)) (by rfl) psb (pa_cons (pv 0) (pa_cons (pe_callB call_len (by rfl) M.g_len PySem.boot_len (pa_cons (pv 1) pa_nil)) pa_nil))) (fun _ _ => rfl)))), ?_⟩
    show tRet _ _ [some (.ref p), some (.ref c)] H
    simp only [L2.tSeq, L2.tRet, L2.tVar, L2.tAnd, L2.tOr, L2.tNot, L2.tTest, L2.tOp, L2.tUn, L2.rU, L2.tCB, L2.tCons, L2.tNil, L2.rIxS, L2.rI0, L2.rI, L2.rEq, L2.rNe, L2.tAug, L2.ipI, L2.tC, L2.tIfS, L2.tIf, L2.tCall, L2.tAsg, L2.gName, L2.tSl, L2.rSlS, L2.tPart, L2.tNoPart, L2.tBM, L2.tBM0, L2.tB, L2.tAndV, L2.tOrV, L2.tNotV, L2.tDrop, L2.tNext, L2.tChain, L2.tPar, L2.tPar3, Cm.tErr, Cm.tGT, L2.tTup, L2.tLst,
  List.getElem?_cons_zero, List.getElem?_cons_succ, Option.some.injEq, exists_eq_left', exists_eq_left, exists_eq', exists_eq, exists_and_left, exists_and_right, exists_const, List.cons.injEq, and_true, true_and, L2.V.str.injEq, L2.V.int.injEq, L2.V.bl.injEq, L2.V.ref.injEq, PySem.Str.mk.injEq, Tx.arr1, Tx.str_len, Tx.at_nat, Tx.cut_nat, Tx.find_one,
  and_assoc, Int.ofNat_inj, Nat.add_sub_cancel_left, Lx.take1_eq, decide_eq_true_eq, Bool.not_eq_true', decide_eq_false_iff_not, Int.ofNat_lt, Int.ofNat_le, Bool.false_eq_true, if_false, if_true, List.set_cons_zero, List.set_cons_succ, List.append_nil, List.nil_append, ↓reduceIte, Cm.nat_succ, Cm.nat_add, Cm.nat_two, List.toList_toArray, not_true, not_false_iff, Cm.toArr_inj, Cm.two_one, Cm.tyV_str, Cm.scal_ss, Cm.scal_ii, Cm.scal_bb, Cm.cb_K, reduceCtorEq, false_and, exists_false, or_false, false_or, List.map_cons, List.map_nil, rIx, rIxL]
    refine ⟨_, .inl ⟨_, hx, rfl⟩, p, A, B, C, _, rfl, hb, b0, b1, c0, c1, by omega, by omega, ?_⟩
    intro n A' C' H' bt hb' n0 n1 q0 q1
    obtain ⟨m, rfl⟩ : ∃ m : Nat, n = (m : Int) := ⟨n.toNat, by omega⟩
    have hm : m < xs.length := by omega
    exact .inl ⟨_, _, rfl, but_seq bt ncp hx, _, by rw [Tx.at_nat]; exact List.getElem?_eq_getElem hm, kk m _ A' C' H' bt hb' (List.getElem?_eq_getElem hm) q0 q1⟩
end
end W
namespace W
open PySem PySem.Spec PyProof.Rows L2 Cm Lx
/-! ### the lexer over a rest -/
def lexR (r : List Nat) (p : Nat) (ws : Toks) (wi : List Bool) : Except Nat Toks := lexF r.length r p ws wi
theorem lexR_nil (p : Nat) (ws : Toks) (wi : List Bool) : lexR [] p ws wi = .ok ws := rfl
theorem lexR_drop {c : Nat} {q : List Nat} {n p : Nat} {ws : Toks} {wi : List Bool} (h : 0 < n) : lexF q.length ((c :: q).drop n) p ws wi = lexR ((c :: q).drop n) p ws wi :=
  lexF_more _ _ _ _ _ (by rw [List.length_drop, List.length_cons]; omega)
theorem lexR_cons (c : Nat) (q : List Nat) (p : Nat) (ws : Toks) (wi : List Bool) : lexR (c :: q) p ws wi =
    if c = 32 ∨ c = 10 then lexR q (p + 1) ws wi
    else if c = 34 then (match commentLen (c :: q) with
      | none => .error p
      | some n => lexR ((c :: q).drop n) (p + n) ws wi)
    else match wordAt (c :: q) (mayNeg ws wi) with
      | none => .error p
      | some (k, v, n) => lexR ((c :: q).drop n) (p + n) (ws ++ [(k, v, p)]) (noteSign wi k v) := by
  show lexF (q.length + 1) (c :: q) p ws wi = _
  simp only [lexF]
  split
  · rfl
  · split
    · cases hc : commentLen (c :: q) with
      | none => rfl
      | some n => exact lexR_drop (by have := commentLen_le hc; omega)
    · cases hc : wordAt (c :: q) (mayNeg ws wi) with
      | none => rfl
      | some tk =>
        obtain ⟨k, v, n⟩ := tk
        exact lexR_drop (wordAt_le hc).1
def Skips (q : List Nat) : Prop := ∀ r p ws wi, lexR (q ++ r) p ws wi = lexR r (p + q.length) ws wi
theorem skips_nil : Skips [] := fun _ _ _ _ => rfl
theorem Skips.app {a b : List Nat} (ha : Skips a) (hb : Skips b) : Skips (a ++ b) := fun r p ws wi => by
  rw [List.append_assoc, ha, hb, List.length_append, Nat.add_assoc]
theorem skips_blank {c : Nat} (h : c = 32 ∨ c = 10) : Skips [c] := fun r p ws wi => by
  show lexR (c :: r) p ws wi = _
  rw [lexR_cons, if_pos h]
  rfl
theorem find_quote : ∀ (b r : List Nat), (∀ c ∈ b, c ≠ 34) → (b ++ 34 :: r).findIdx? (· == 34) = some b.length
  | [], r, _ => by simp [List.findIdx?_cons]
  | c :: b, r, h => by
    rw [List.cons_append, List.findIdx?_cons, find_quote b r fun x hx => h x (List.mem_cons_of_mem _ hx)]
    have : (c == 34) = false := by simpa using h c List.mem_cons_self
    rw [this]
    rfl
theorem skips_note {b : List Nat} (h : ∀ c ∈ b, c ≠ 34) : Skips (34 :: b ++ [34]) := fun r p ws wi => by
  have e : 34 :: b ++ [34] ++ r = 34 :: (b ++ 34 :: r) := by simp
  rw [e, lexR_cons, if_neg (by decide), if_pos rfl]
  have e2 : commentLen (34 :: (b ++ 34 :: r)) = some (b.length + 2) := by
    unfold commentLen
    rw [List.drop_succ_cons, List.drop_zero, find_quote b r h]
    rfl
  rw [e2]
  show lexR ((34 :: (b ++ 34 :: r)).drop (b.length + 2)) (p + (b.length + 2)) ws wi = _
  have e3 : (34 :: (b ++ 34 :: r)).drop (b.length + 2) = r := by
    rw [List.drop_succ_cons, ← List.drop_drop, List.drop_append_of_le_length (Nat.le_refl _), List.drop_length]
    rfl
  rw [e3]
  simp
theorem skips_rep {q : List Nat} (h : Skips q) : ∀ n, Skips (List.replicate n q).flatten
  | 0 => skips_nil
  | n + 1 => by
    rw [List.replicate_succ, List.flatten_cons]
    exact h.app (skips_rep h n)
/-! ### quotes -/
def esc (t : List Nat) : List Nat := t.flatMap fun c => if c = 39 then [39, 39] else [c]
theorem esc_q (t : List Nat) : esc (39 :: t) = 39 :: 39 :: esc t := rfl
theorem esc_c {c : Nat} (h : c ≠ 39) (t : List Nat) : esc (c :: t) = c :: esc t := by
  show (if c = 39 then [39, 39] else [c]) ++ esc t = _
  rw [if_neg h]
  rfl
theorem esc_repl : ∀ t : List Nat, StrLaws.replL [39] [39, 39] t = esc t
  | [] => StrLaws.replL_nil
  | c :: t => by
    by_cases h : c = 39
    · subst h
      rw [StrLaws.replL_hit (by simp) rfl, esc_q]
      show [39, 39] ++ StrLaws.replL [39] [39, 39] t = _
      rw [esc_repl t]
      rfl
    · rw [StrLaws.replL_miss (c := c) (r := t) (y := [39]) (z := [39, 39]) (fun z => h (by simpa using congrArg (fun l => l.headD 0) z)), esc_c h, esc_repl t]
theorem unesc : ∀ t : List Nat, StrLaws.replL [39, 39] [39] (esc t) = t
  | [] => StrLaws.replL_nil
  | c :: t => by
    by_cases h : c = 39
    · subst h
      rw [esc_q, StrLaws.replL_hit (by simp) rfl]
      show [39] ++ StrLaws.replL [39, 39] [39] (esc t) = _
      rw [unesc t]
      rfl
    · rw [esc_c h, StrLaws.replL_miss (c := c) (r := esc t) (y := [39, 39]) (z := [39]) (fun z => h (by simpa using congrArg (fun l => l.headD 0) z)), unesc t]
theorem tick_cons {c : Nat} (h : c ≠ 39) (r : List Nat) : tick (c :: r) = (tick r).map (· + 1) := by
  cases r with
  | nil =>
    simp only [tick]
    rw [if_neg h]
    rfl
  | cons d r =>
    simp only [tick]
    rw [if_neg h]
theorem tick_esc {e : List Nat} {n : Nat} (he : tick e = some n) : ∀ t : List Nat, tick (esc t ++ e) = some ((esc t).length + n)
  | [] => by
    show tick e = some (0 + n)
    rw [he, Nat.zero_add]
  | c :: t => by
    have ih := tick_esc he t
    by_cases h : c = 39
    · subst h
      rw [esc_q]
      show tick (39 :: 39 :: (esc t ++ e)) = _
      simp only [tick, if_true, ih]
      show some ((esc t).length + n + 2) = some ((esc t).length + 1 + 1 + n)
      congr 1
      omega
    · rw [esc_c h]
      show tick (c :: (esc t ++ e)) = _
      rw [tick_cons h, ih]
      show some ((esc t).length + n + 1) = some ((esc t).length + 1 + n)
      congr 1
      omega
theorem tick_none {e : List Nat} (he : tick e = none) : ∀ t : List Nat, tick (esc t ++ e) = none
  | [] => he
  | c :: t => by
    have ih := tick_none he t
    by_cases h : c = 39
    · subst h
      rw [esc_q]
      show tick (39 :: 39 :: (esc t ++ e)) = _
      simp only [tick, if_true, ih]
      rfl
    · rw [esc_c h]
      show tick (c :: (esc t ++ e)) = _
      rw [tick_cons h, ih]
      rfl
theorem tick_end {r : List Nat} (h : r[0]? ≠ some 39) : tick (39 :: r) = some 1 := by
  cases r with
  | nil => rfl
  | cons d r =>
    have : d ≠ 39 := fun z => h (by rw [z]; rfl)
    simp only [tick, if_true]
    rw [if_neg this]
/-- a text with every sign a put as z -/
theorem repl_one (a z : Nat) : ∀ t : List Nat, StrLaws.replL [a] [z] t = t.map fun c => if c = a then z else c
  | [] => StrLaws.replL_nil
  | c :: t => by
    by_cases h : c = a
    · subst h
      rw [StrLaws.replL_hit (by simp) rfl]
      show [z] ++ StrLaws.replL [c] [z] t = _
      rw [repl_one c z t, List.map_cons, if_pos rfl]
      rfl
    · rw [StrLaws.replL_miss (c := c) (r := t) (y := [a]) (z := [z]) (fun q => h (by simpa using congrArg (fun l => l.headD 0) q)), repl_one a z t, List.map_cons, if_neg h]
end W
namespace W
open PySem PySem.Spec PyProof.Rows L2 Cm Lx
/-! ### words as they are drawn -/
inductive Wd where
  | name (n : List Nat) | kw (n : List Nat) | int (neg : Bool) (d : List Nat) | str (t : List Nat) | symS (t : List Nat) | symN (n : List Nat) | symK (ns : List (List Nat)) | symO (o : List Nat) | op (o : List Nat) | sign (s : List Nat)
def kwsT (ns : List (List Nat)) : List Nat := (ns.map (· ++ [58])).flatten
def Wd.text : Wd → List Nat
  | .name n => n
  | .kw n => n ++ [58]
  | .int neg d => (if neg then [45] else []) ++ d
  | .str t => 39 :: (esc t ++ [39])
  | .symS t => 35 :: 39 :: (esc t ++ [39])
  | .symN n => 35 :: n
  | .symK ns => 35 :: kwsT ns
  | .symO o => 35 :: o
  | .op o => o
  | .sign s => s
def Wd.kind : Wd → List Nat
  | .name _ => kName
  | .kw _ => kKeyword
  | .int _ _ => kInt
  | .str _ => kStr
  | .symS _ => kSym
  | .symN _ => kSym
  | .symK _ => kSym
  | .symO _ => kSym
  | .op _ => kOp
  | .sign _ => kSign
def Wd.val : Wd → V
  | .name n => Sv n
  | .kw n => Sv (n ++ [58])
  | .int neg d => .int (if neg then -((NumText.digitsVal d : Nat) : Int) else ((NumText.digitsVal d : Nat) : Int))
  | .str t => Sv t
  | .symS t => Sv t
  | .symN n => Sv n
  | .symK ns => Sv (kwsT ns)
  | .symO o => Sv o
  | .op o => Sv o
  | .sign s => Sv s
structure IsName (n : List Nat) : Prop where
  ne : n ≠ []
  len : n.length ≤ 40
  hd : n.headD 0 ∈ kLETTERS
  all : ∀ c ∈ n, c ∈ kNAME_SIGNS
def Wd.Wf : Wd → Prop
  | .name n => IsName n
  | .kw n => IsName n
  | .int _ d => d ≠ [] ∧ d.length ≤ 60 ∧ ∀ c ∈ d, c ∈ kDIGITS
  | .str t => t.all okc = true ∧ t.length ≤ 8
  | .symS t => t.all okc = true ∧ t.length ≤ 8
  | .symN n => IsName n
  | .symK ns => (ns ≠ [] ∧ ∀ n ∈ ns, IsName n) ∧ ns.length ≤ 3
  | .symO o => o ∈ kOPERATORS_FIRST
  | .op o => o ∈ kOPERATORS_FIRST
  | .sign s => s ∈ kSIGNS_FIRST
/-- it may stand where a - ahead of digits is read as neg says -/
def Wd.May (neg : Bool) : Wd → Prop
  | .int true _ => neg = true
  | _ => True
/-- what may stand behind it -/
def Okr (neg : Bool) (r : List Nat) : Wd → Prop
  | .name _ => r.headD 0 ∉ kNAME_SIGNS ∧ (r[0]? = some 58 → r[1]? = some 61)
  | .kw _ => r[0]? ≠ some 61
  | .int _ _ => r.headD 0 ∉ kDIGITS
  | .str _ => r[0]? ≠ some 39
  | .symS _ => r[0]? ≠ some 39
  | .symN _ => r.headD 0 ∉ kNAME_SIGNS ∧ (r[0]? = some 58 → r[1]? = some 61)
  | .symK _ => r[0]? ≠ some 61 ∧ r.headD 0 ∉ kLETTERS
  | .symO _ => r[0]? ≠ some 61
  | .op o => r[0]? ≠ some 61 ∧ (o = [45] → neg = true → r.headD 0 ∉ kDIGITS)
  | .sign s => s = [58] → r[0]? ≠ some 61
theorem okr_gap {neg : Bool} {r : List Nat} (h : r.headD 0 ∈ [0, 32, 10, 34]) (h0 : r = [] ∨ r.headD 0 ≠ 0) (w : Wd) : Okr neg r w := by
  have k1 : ∀ c ∈ [0, 32, 10, 34], c ∉ kNAME_SIGNS ∧ c ∉ kDIGITS ∧ c ∉ kLETTERS ∧ c ≠ 58 ∧ c ≠ 61 ∧ c ≠ 39 := by decide
  obtain ⟨a1, a2, a3, a4, a5, a6⟩ := k1 _ h
  have e : ∀ x, r[0]? = some x → r.headD 0 = x := fun x hx => by
    cases r with
    | nil => cases hx
    | cons c r => simpa using hx
  cases w with
  | name n => exact ⟨a1, fun z => absurd (e _ z) a4⟩
  | kw n => exact fun z => a5 (e _ z)
  | int b d => exact a2
  | str t => exact fun z => a6 (e _ z)
  | symS t => exact fun z => a6 (e _ z)
  | symN n => exact ⟨a1, fun z => absurd (e _ z) a4⟩
  | symK ns => exact ⟨fun z => a5 (e _ z), a3⟩
  | symO o => exact fun z => a5 (e _ z)
  | op o => exact ⟨fun z => a5 (e _ z), fun _ _ => a2⟩
  | sign s => exact fun _ z => a5 (e _ z)
/-! ### runs, names, keywords -/
theorem runLen_app {sg r : List Nat} (hr : r = [] ∨ r.headD 0 ∉ sg) : ∀ {n : List Nat}, (∀ c ∈ n, c ∈ sg) → runLen sg (n ++ r) = n.length
  | [], _ => by
    cases r with
    | nil => rfl
    | cons c r =>
      rcases hr with hr | hr
      · cases hr
      · show runLen sg (c :: r) = 0
        rw [runLen_cons]
        exact if_neg hr
  | c :: n, h => by
    show runLen sg (c :: (n ++ r)) = _
    rw [runLen_cons, if_pos (h c List.mem_cons_self), runLen_app hr fun x hx => h x (List.mem_cons_of_mem _ hx)]
    rfl
theorem headD_app {n r : List Nat} (h : n ≠ []) : (n ++ r).headD 0 = n.headD 0 := by
  cases n with
  | nil => exact absurd rfl h
  | cons c n => rfl
theorem nameLen_app {n r : List Nat} (h : IsName n) (hr : r = [] ∨ r.headD 0 ∉ kNAME_SIGNS) : nameLen (n ++ r) = n.length := by
  unfold nameLen
  rw [headD_app h.ne, if_pos h.hd, runLen_app hr h.all, if_pos h.len]
theorem kwLen_at {n r : List Nat} (h : IsName n) (hr : r = [] ∨ r.headD 0 ∉ kNAME_SIGNS) : kwLen (n ++ r) = if r[0]? = some 58 ∧ r[1]? ≠ some 61 then n.length + 1 else 0 := by
  have h0 : 0 < n.length := List.length_pos_iff.mpr h.ne
  unfold kwLen
  rw [nameLen_app h hr, List.getElem?_append_right (Nat.le_refl _), List.getElem?_append_right (by omega), Nat.sub_self, show n.length + 1 - n.length = 1 by omega]
  by_cases q : r[0]? = some 58 ∧ r[1]? ≠ some 61
  · rw [if_pos ⟨h0, q⟩, if_pos q]
  · rw [if_neg (fun z => q z.2), if_neg q]
theorem col_ok (r : List Nat) : (58 :: r) = [] ∨ (58 :: r).headD 0 ∉ kNAME_SIGNS := .inr (by show 58 ∉ kNAME_SIGNS; decide)
theorem kwLen_kw {n r : List Nat} (h : IsName n) (hr : r[0]? ≠ some 61) : kwLen (n ++ 58 :: r) = n.length + 1 := by
  rw [kwLen_at h (col_ok r), if_pos ⟨rfl, by simpa using hr⟩]
theorem no_name {r : List Nat} (h : r.headD 0 ∉ kLETTERS) : nameLen r = 0 ∧ kwLen r = 0 ∧ kwsLen r = 0 := by
  have h1 : nameLen r = 0 := by
    unfold nameLen
    rw [if_neg h]
  have h2 : kwLen r = 0 := by
    unfold kwLen
    rw [h1]
    exact if_neg fun z => absurd z.1 (by decide)
  exact ⟨h1, h2, kwsLen_stop (by omega)⟩
theorem letter_ne {c : Nat} (h : c ∈ kLETTERS) : c ≠ 61 ∧ c ≠ 39 ∧ c ≠ 35 ∧ c ≠ 0 ∧ c ≠ 32 ∧ c ≠ 10 ∧ c ≠ 34 ∧ c ∈ kNAME_SIGNS ∧ c ∉ kDIGITS := (show ∀ c ∈ kLETTERS, c ≠ 61 ∧ c ≠ 39 ∧ c ≠ 35 ∧ c ≠ 0 ∧ c ≠ 32 ∧ c ≠ 10 ∧ c ≠ 34 ∧ c ∈ kNAME_SIGNS ∧ c ∉ kDIGITS by decide) c h
theorem get0 {r : List Nat} {x : Nat} (h : r[0]? = some x) : r.headD 0 = x := by
  cases r with
  | nil => cases h
  | cons c r => simpa using h
theorem kwsT_cons (n : List Nat) (ns : List (List Nat)) : kwsT (n :: ns) = n ++ 58 :: kwsT ns := by
  show (n ++ [58]) ++ kwsT ns = _
  rw [List.append_assoc]
  rfl
theorem kws_app {r : List Nat} (h1 : r[0]? ≠ some 61) (h2 : r.headD 0 ∉ kLETTERS) : ∀ {ns : List (List Nat)}, (∀ n ∈ ns, IsName n) → kwsLen (kwsT ns ++ r) = (kwsT ns).length
  | [], _ => (no_name h2).2.2
  | n :: ns, h => by
    have hn := h n List.mem_cons_self
    have hns : ∀ m ∈ ns, IsName m := fun m hm => h m (List.mem_cons_of_mem _ hm)
    have ih := kws_app h1 h2 hns
    have h3 : (kwsT ns ++ r)[0]? ≠ some 61 := by
      cases ns with
      | nil => exact h1
      | cons m ms =>
        intro z
        have hm := hns m List.mem_cons_self
        have z2 := get0 z
        rw [kwsT_cons, List.append_assoc, headD_app hm.ne] at z2
        exact (letter_ne hm.hd).1 z2
    have e : kwsT (n :: ns) ++ r = n ++ 58 :: (kwsT ns ++ r) := by
      rw [kwsT_cons, List.append_assoc]
      rfl
    have k := kwLen_kw hn h3
    have e2 : (n ++ 58 :: (kwsT ns ++ r)).drop (n.length + 1) = kwsT ns ++ r := by
      rw [← List.drop_drop, List.drop_append_of_le_length (Nat.le_refl _), List.drop_length]
      rfl
    rw [e, kwsLen_step (by omega), k, e2, ih, kwsT_cons, List.length_append, List.length_cons]
    omega
/-! ### operators, signs -/
theorem op_first {o r : List Nat} (h : o ∈ kOPERATORS_FIRST) (hr : r[0]? ≠ some 61) : firstOf kOPERATORS_FIRST (o ++ r) = o := by
  have hc : ∀ c q, r = c :: q → c ≠ 61 := fun c q e z => hr (by rw [e, z]; rfl)
  simp only [kOPERATORS_FIRST, List.mem_cons, List.not_mem_nil, or_false] at h
  cases r with
  | nil => rcases h with rfl | rfl | rfl | rfl | rfl | rfl | rfl | rfl | rfl | rfl | rfl | rfl | rfl | rfl <;> rfl
  | cons c q =>
    have hc1 := hc c q rfl
    have hc2 : (61 == c) = false := by simpa using fun z => hc1 z.symm
    rcases h with rfl | rfl | rfl | rfl | rfl | rfl | rfl | rfl | rfl | rfl | rfl | rfl | rfl | rfl <;> simp [firstOf, kOPERATORS_FIRST, List.find?, List.isPrefixOf, hc2]
theorem op_none {c : Nat} (h : c ∉ [47, 92, 60, 62, 61, 126, 43, 45, 42, 44]) (r : List Nat) : firstOf kOPERATORS_FIRST (c :: r) = [] := by
  simp only [List.mem_cons, List.not_mem_nil, or_false, not_or] at h
  obtain ⟨h1, h2, h3, h4, h5, h6, h7, h8, h9, h10⟩ := h
  have e : ∀ {x}, c ≠ x → (x == c) = false := fun {x} q => by simpa using fun z => q z.symm
  simp [firstOf, kOPERATORS_FIRST, List.find?, List.isPrefixOf, e h1, e h2, e h3, e h4, e h5, e h6, e h7, e h8, e h9, e h10]
theorem sign_first {s r : List Nat} (h : s ∈ kSIGNS_FIRST) (hr : s = [58] → r[0]? ≠ some 61) : firstOf kSIGNS_FIRST (s ++ r) = s ∧ firstOf kOPERATORS_FIRST (s ++ r) = [] := by
  have hs : ∀ s ∈ kSIGNS_FIRST, s ≠ [] ∧ s.headD 0 ∉ [47, 92, 60, 62, 61, 126, 43, 45, 42, 44] := by decide
  have h2 : firstOf kOPERATORS_FIRST (s ++ r) = [] := by
    obtain ⟨n1, n2⟩ := hs s h
    cases s with
    | nil => exact absurd rfl n1
    | cons c s => exact op_none n2 _
  refine ⟨?_, h2⟩
  by_cases e : s = [58]
  · subst e
    have hr' := hr rfl
    cases r with
    | nil => rfl
    | cons c q =>
      have hc2 : (61 == c) = false := by
        simp at hr'
        simpa using fun z => hr' z.symm
      simp [firstOf, kSIGNS_FIRST, List.find?, List.isPrefixOf, hc2]
  · simp only [kSIGNS_FIRST, List.mem_cons, List.not_mem_nil, or_false] at h
    rcases h with rfl | rfl | rfl | rfl | rfl | rfl | rfl | rfl | rfl | rfl | rfl <;> first | exact absurd rfl e | simp [firstOf, kSIGNS_FIRST, List.find?, List.isPrefixOf]
/-! ### one word -/
theorem wordAt_eq (r : List Nat) (neg : Bool) : wordAt r neg = if r.headD 0 ∈ kLETTERS then nameWord r else if r.headD 0 = 39 then strWord r else if r.headD 0 = 35 then symWord r
  else if 0 < intLen r neg then some (kInt, .int (intOf (r.take (intLen r neg))), intLen r neg) else signWord r := rfl
theorem take_app (a b : List Nat) : (a ++ b).take a.length = a := by rw [List.take_append_of_le_length (Nat.le_refl _), List.take_length]
theorem step_name {n r : List Nat} (h : IsName n) (h1 : r.headD 0 ∉ kNAME_SIGNS) (h2 : r[0]? = some 58 → r[1]? = some 61) (neg : Bool) : wordAt (n ++ r) neg = some (kName, Sv n, n.length) := by
  rw [wordAt_eq, headD_app h.ne, if_pos h.hd]
  unfold nameWord
  have hk : kwLen (n ++ r) = 0 := by
    rw [kwLen_at h (.inr h1), if_neg (fun z => z.2 (h2 z.1))]
  have h0 : 0 < n.length := List.length_pos_iff.mpr h.ne
  rw [hk, if_neg (by decide), nameLen_app h (.inr h1), if_neg (by omega), take_app]
theorem step_kw {n r : List Nat} (h : IsName n) (h1 : r[0]? ≠ some 61) (neg : Bool) : wordAt (n ++ [58] ++ r) neg = some (kKeyword, Sv (n ++ [58]), (n ++ [58]).length) := by
  have e : n ++ [58] ++ r = n ++ 58 :: r := by rw [List.append_assoc]; rfl
  have el : (n ++ [58]).length = n.length + 1 := by rw [List.length_append]; rfl
  have hk := kwLen_kw h h1
  rw [wordAt_eq]
  have hh : (n ++ [58] ++ r).headD 0 = n.headD 0 := by rw [e, headD_app h.ne]
  rw [hh, if_pos h.hd]
  unfold nameWord
  rw [← e] at hk
  rw [hk, if_pos (by omega), ← el, take_app]
theorem not_int {c : Nat} (h : c ∉ kDIGITS) (r : List Nat) (neg : Bool) (h2 : c = 45 → neg = true → r.headD 0 ∉ kDIGITS) : intLen (c :: r) neg = 0 := by
  unfold intLen
  by_cases q : neg = true ∧ (c :: r).headD 0 = 45
  · simp only [if_pos q]
    have e : runLen kDIGITS ((c :: r).drop 1) = 0 := by
      have h3 := h2 q.2 q.1
      show runLen kDIGITS r = 0
      cases r with
      | nil => rfl
      | cons d r =>
        rw [runLen_cons]
        exact if_neg h3
    rw [e]
    rfl
  · simp only [if_neg q, List.drop_zero]
    have e : runLen kDIGITS (c :: r) = 0 := by
      rw [runLen_cons]
      exact if_neg h
    rw [e]
    rfl
theorem digit_ne {c : Nat} (h : c ∈ kDIGITS) : c ∉ kLETTERS ∧ c ≠ 39 ∧ c ≠ 35 ∧ c ≠ 45 ∧ c ≠ 0 ∧ c ≠ 32 ∧ c ≠ 10 ∧ c ≠ 34 ∧ c ≠ 61 ∧ c ≠ 58 := (show ∀ c ∈ kDIGITS, c ∉ kLETTERS ∧ c ≠ 39 ∧ c ≠ 35 ∧ c ≠ 45 ∧ c ≠ 0 ∧ c ≠ 32 ∧ c ≠ 10 ∧ c ≠ 34 ∧ c ≠ 61 ∧ c ≠ 58 by decide) c h
theorem headD_mem {d : List Nat} (h : d ≠ []) {p : Nat → Prop} (q : ∀ c ∈ d, p c) : p (d.headD 0) := by
  cases d with
  | nil => exact absurd rfl h
  | cons c d => exact q c List.mem_cons_self
theorem step_int {d r : List Nat} {b neg : Bool} (h : d ≠ [] ∧ d.length ≤ 60 ∧ ∀ c ∈ d, c ∈ kDIGITS) (hm : b = true → neg = true) (h1 : r.headD 0 ∉ kDIGITS) :
    wordAt ((if b then [45] else []) ++ d ++ r) neg = some (kInt, .int (if b then -((NumText.digitsVal d : Nat) : Int) else ((NumText.digitsVal d : Nat) : Int)), ((if b then [45] else []) ++ d).length) := by
  obtain ⟨g1, g2, g3⟩ := h
  have h0 : 0 < d.length := List.length_pos_iff.mpr g1
  have hd := headD_mem g1 g3
  obtain ⟨k1, k2, k3, k4, _⟩ := digit_ne hd
  have hrun := runLen_app (sg := kDIGITS) (.inr h1) g3
  cases b with
  | false =>
    show wordAt (d ++ r) neg = some (kInt, .int ((NumText.digitsVal d : Nat) : Int), d.length)
    have hl : intLen (d ++ r) neg = d.length := by
      unfold intLen
      have q : ¬ (neg = true ∧ (d ++ r).headD 0 = 45) := fun z => k4 (by rw [headD_app g1] at z; exact z.2)
      simp only [if_neg q, List.drop_zero, hrun]
      rw [if_pos ⟨h0, g2⟩, Nat.zero_add]
    rw [wordAt_eq, headD_app g1, if_neg k1, if_neg k2, if_neg k3, hl, if_pos h0, take_app]
    unfold intOf
    rw [if_neg k4]
  | true =>
    have hn := hm rfl
    subst hn
    show wordAt (45 :: (d ++ r)) true = some (kInt, .int (-((NumText.digitsVal d : Nat) : Int)), d.length + 1)
    have hl : intLen (45 :: (d ++ r)) true = d.length + 1 := by
      show (if 1 ≤ runLen kDIGITS (d ++ r) ∧ runLen kDIGITS (d ++ r) ≤ 60 then 1 + runLen kDIGITS (d ++ r) else 0) = _
      rw [hrun, if_pos ⟨h0, g2⟩, Nat.add_comm]
    rw [wordAt_eq, if_neg (show (45 :: (d ++ r)).headD 0 ∉ kLETTERS by show 45 ∉ kLETTERS; decide), if_neg (show ¬ (45 :: (d ++ r)).headD 0 = 39 by show ¬ 45 = 39; decide), if_neg (show ¬ (45 :: (d ++ r)).headD 0 = 35 by show ¬ 45 = 35; decide), hl, if_pos (by omega), List.take_succ_cons, take_app]
    rfl
theorem str_len {t r : List Nat} (h : r[0]? ≠ some 39) : strLen (39 :: (esc t ++ [39] ++ r)) = some ((esc t).length + 2) := by
  unfold strLen
  rw [List.drop_succ_cons, List.drop_zero, List.append_assoc]
  show (tick (esc t ++ 39 :: r)).map (· + 1) = _
  rw [tick_esc (tick_end h) t]
  rfl
theorem unq_str (t : List Nat) : unq (39 :: (esc t ++ [39])) = t := by
  unfold unq
  rw [List.drop_succ_cons, List.drop_zero, List.length_cons, List.length_append, show (esc t).length + [39].length + 1 - 2 = (esc t).length from rfl, take_app, unesc]
theorem step_str {t r : List Nat} (h : r[0]? ≠ some 39) (neg : Bool) : wordAt (39 :: (esc t ++ [39]) ++ r) neg = some (kStr, Sv t, (39 :: (esc t ++ [39])).length) := by
  have el : (39 :: (esc t ++ [39])).length = (esc t).length + 2 := by
    rw [List.length_cons, List.length_append]
    rfl
  have hh : (39 :: (esc t ++ [39]) ++ r).headD 0 = 39 := rfl
  rw [wordAt_eq, hh, if_neg (show ¬ 39 ∈ kLETTERS by decide), if_pos rfl]
  unfold strWord
  have hs : strLen (39 :: (esc t ++ [39]) ++ r) = some ((esc t).length + 2) := str_len h
  rw [hs]
  show some (kStr, Sv (unq ((39 :: (esc t ++ [39]) ++ r).take ((esc t).length + 2))), (esc t).length + 2) = _
  rw [← el, take_app, unq_str]
theorem step_sym (r : List Nat) (neg : Bool) : wordAt (35 :: r) neg = symWord (35 :: r) := by
  have hh : (35 :: r).headD 0 = 35 := rfl
  rw [wordAt_eq, hh, if_neg (show ¬ 35 ∈ kLETTERS by decide), if_neg (show ¬ 35 = 39 by decide), if_pos rfl]
theorem step_symS {t r : List Nat} (h : r[0]? ≠ some 39) (neg : Bool) : wordAt (35 :: 39 :: (esc t ++ [39]) ++ r) neg = some (kSym, Sv t, (35 :: 39 :: (esc t ++ [39])).length) := by
  have el : (39 :: (esc t ++ [39])).length = (esc t).length + 2 := by
    rw [List.length_cons, List.length_append]
    rfl
  have hs : strLen (39 :: (esc t ++ [39]) ++ r) = some ((esc t).length + 2) := str_len h
  show wordAt (35 :: (39 :: (esc t ++ [39]) ++ r)) neg = _
  rw [step_sym]
  unfold symWord symLen
  rw [if_pos (show (35 :: (39 :: (esc t ++ [39]) ++ r))[1]? = some 39 from rfl), List.drop_succ_cons, List.drop_zero, hs]
  show (if 0 < (esc t).length + 2 + 1 then some (kSym, Sv (if (35 :: (39 :: (esc t ++ [39]) ++ r))[1]? = some 39 then unq ((39 :: (esc t ++ [39]) ++ r).take ((esc t).length + 2 + 1 - 1)) else (39 :: (esc t ++ [39]) ++ r).take ((esc t).length + 2 + 1 - 1)), (esc t).length + 2 + 1) else _) = _
  rw [if_pos (by omega), if_pos (show (35 :: (39 :: (esc t ++ [39]) ++ r))[1]? = some 39 from rfl), Nat.add_sub_cancel, ← el, take_app, unq_str]
  rfl
theorem sym_len {x r : List Nat} (h0 : (x ++ r).headD 0 ≠ 39) (hx : 0 < x.length) (hl : (if (if kwsLen (x ++ r) < nameLen (x ++ r) then nameLen (x ++ r) else kwsLen (x ++ r)) = 0 then (firstOf kOPERATORS_FIRST (x ++ r)).length else (if kwsLen (x ++ r) < nameLen (x ++ r) then nameLen (x ++ r) else kwsLen (x ++ r))) = x.length) (neg : Bool) :
    wordAt (35 :: x ++ r) neg = some (kSym, Sv x, (35 :: x).length) := by
  have h1 : ¬ (35 :: (x ++ r))[1]? = some 39 := fun z => h0 (get0 (by simpa using z))
  show wordAt (35 :: (x ++ r)) neg = _
  rw [step_sym]
  unfold symWord symLen
  rw [if_neg h1, List.drop_succ_cons, List.drop_zero]
  simp only [hl]
  rw [if_pos hx]
  show (if 0 < x.length + 1 then some (kSym, Sv (if (35 :: (x ++ r))[1]? = some 39 then unq ((x ++ r).take (x.length + 1 - 1)) else (x ++ r).take (x.length + 1 - 1)), x.length + 1) else _) = _
  rw [if_pos (by omega), if_neg h1, Nat.add_sub_cancel, take_app]
  rfl
theorem step_symN {n r : List Nat} (h : IsName n) (h1 : r.headD 0 ∉ kNAME_SIGNS) (h2 : r[0]? = some 58 → r[1]? = some 61) (neg : Bool) : wordAt (35 :: n ++ r) neg = some (kSym, Sv n, (35 :: n).length) := by
  have h0 : 0 < n.length := List.length_pos_iff.mpr h.ne
  have hk : kwLen (n ++ r) = 0 := by rw [kwLen_at h (.inr h1), if_neg (fun z => z.2 (h2 z.1))]
  refine sym_len (by rw [headD_app h.ne]; exact (letter_ne h.hd).2.1) h0 ?_ neg
  rw [kwsLen_stop (by omega), nameLen_app h (.inr h1), if_pos h0, if_neg (by omega)]
theorem step_symK {ns : List (List Nat)} {r : List Nat} (h : ns ≠ [] ∧ ∀ n ∈ ns, IsName n) (h1 : r[0]? ≠ some 61) (h2 : r.headD 0 ∉ kLETTERS) (neg : Bool) : wordAt (35 :: kwsT ns ++ r) neg = some (kSym, Sv (kwsT ns), (35 :: kwsT ns).length) := by
  obtain ⟨g1, g2⟩ := h
  cases ns with
  | nil => exact absurd rfl g1
  | cons n ns =>
    have hn := g2 n List.mem_cons_self
    have hk := kws_app h1 h2 g2
    have e : kwsT (n :: ns) ++ r = n ++ 58 :: (kwsT ns ++ r) := by
      rw [kwsT_cons, List.append_assoc]
      rfl
    have hnl : nameLen (kwsT (n :: ns) ++ r) = n.length := by rw [e, nameLen_app hn (col_ok _)]
    have hl : (kwsT (n :: ns)).length = n.length + 1 + (kwsT ns).length := by
      rw [kwsT_cons, List.length_append, List.length_cons]
      omega
    refine sym_len (by rw [e, headD_app hn.ne]; exact (letter_ne hn.hd).2.1) (by omega) ?_ neg
    have q1 : ¬ (kwsT (n :: ns)).length < n.length := by omega
    have q2 : ¬ (kwsT (n :: ns)).length = 0 := by omega
    rw [hk, hnl]
    simp only [if_neg q1, if_neg q2]
theorem op_chars {o : List Nat} (h : o ∈ kOPERATORS_FIRST) : o ≠ [] ∧ o.headD 0 ∉ kLETTERS ∧ o.headD 0 ∉ kDIGITS ∧ o.headD 0 ≠ 39 ∧ o.headD 0 ≠ 35 ∧ (o.headD 0 = 45 → o = [45]) ∧ o.headD 0 ∉ [32, 10, 34] := (show ∀ o ∈ kOPERATORS_FIRST, o ≠ [] ∧ o.headD 0 ∉ kLETTERS ∧ o.headD 0 ∉ kDIGITS ∧ o.headD 0 ≠ 39 ∧ o.headD 0 ≠ 35 ∧ (o.headD 0 = 45 → o = [45]) ∧ o.headD 0 ∉ [32, 10, 34] by decide) o h
theorem step_symO {o r : List Nat} (h : o ∈ kOPERATORS_FIRST) (h1 : r[0]? ≠ some 61) (neg : Bool) : wordAt (35 :: o ++ r) neg = some (kSym, Sv o, (35 :: o).length) := by
  obtain ⟨k1, k2, k3, k4, k5, k6, k7⟩ := op_chars h
  have hn := no_name (r := o ++ r) (by rw [headD_app k1]; exact k2)
  refine sym_len (by rw [headD_app k1]; exact k4) (List.length_pos_iff.mpr k1) ?_ neg
  rw [hn.1, hn.2.2, op_first h h1]
  rfl
theorem step_op {o r : List Nat} {neg : Bool} (h : o ∈ kOPERATORS_FIRST) (h1 : r[0]? ≠ some 61) (h2 : o = [45] → neg = true → r.headD 0 ∉ kDIGITS) : wordAt (o ++ r) neg = some (kOp, Sv o, o.length) := by
  obtain ⟨k1, k2, k3, k4, k5, k6, k7⟩ := op_chars h
  have hi : intLen (o ++ r) neg = 0 := by
    cases o with
    | nil => exact absurd rfl k1
    | cons c o =>
      refine not_int k3 (o ++ r) neg fun hc hn => ?_
      have e := k6 hc
      have e2 : o = [] := (List.cons.inj e).2
      rw [e2]
      exact h2 e hn
  rw [wordAt_eq, headD_app k1, if_neg k2, if_neg k4, if_neg k5, hi, if_neg (by decide)]
  unfold signWord
  rw [op_first h h1, if_neg k1]
theorem sign_chars {s : List Nat} (h : s ∈ kSIGNS_FIRST) : s ≠ [] ∧ s.headD 0 ∉ kLETTERS ∧ s.headD 0 ∉ kDIGITS ∧ s.headD 0 ≠ 39 ∧ s.headD 0 ≠ 45 ∧ (s.headD 0 = 35 → s = [35, 40]) ∧ s.headD 0 ∉ [32, 10, 34] := (show ∀ s ∈ kSIGNS_FIRST, s ≠ [] ∧ s.headD 0 ∉ kLETTERS ∧ s.headD 0 ∉ kDIGITS ∧ s.headD 0 ≠ 39 ∧ s.headD 0 ≠ 45 ∧ (s.headD 0 = 35 → s = [35, 40]) ∧ s.headD 0 ∉ [32, 10, 34] by decide) s h
theorem step_sign {s r : List Nat} {neg : Bool} (h : s ∈ kSIGNS_FIRST) (h1 : s = [58] → r[0]? ≠ some 61) : wordAt (s ++ r) neg = some (kSign, Sv s, s.length) := by
  obtain ⟨k1, k2, k3, k4, k5, k6, k7⟩ := sign_chars h
  obtain ⟨f1, f2⟩ := sign_first h h1
  have hs : signWord (s ++ r) = some (kSign, Sv s, s.length) := by
    unfold signWord
    rw [f2, if_pos rfl, f1, if_neg k1]
  by_cases q : s.headD 0 = 35
  · have e := k6 q
    subst e
    show wordAt (35 :: 40 :: r) neg = _
    rw [step_sym]
    unfold symWord symLen
    have hn := no_name (r := 40 :: r) (by show 40 ∉ kLETTERS; decide)
    have ho : firstOf kOPERATORS_FIRST (40 :: r) = [] := op_none (by decide) r
    rw [if_neg (show ¬ (35 :: 40 :: r)[1]? = some 39 by show ¬ some 40 = some 39; decide), List.drop_succ_cons, List.drop_zero, hn.1, hn.2.2, ho]
    exact hs
  · have hi : intLen (s ++ r) neg = 0 := by
      cases s with
      | nil => exact absurd rfl k1
      | cons c s => exact not_int k3 (s ++ r) neg fun hc _ => absurd hc k5
    rw [wordAt_eq, headD_app k1, if_neg k2, if_neg k4, if_neg q, hi, if_neg (by decide)]
    exact hs
theorem word_step {w : Wd} {neg : Bool} {r : List Nat} (hw : w.Wf) (hm : w.May neg) (ho : Okr neg r w) : wordAt (w.text ++ r) neg = some (w.kind, w.val, w.text.length) := by
  cases w with
  | name n => exact step_name hw ho.1 ho.2 neg
  | kw n => exact step_kw hw ho neg
  | int b d => exact step_int hw (fun e => by subst e; exact hm) ho
  | str t => exact step_str ho neg
  | symS t => exact step_symS ho neg
  | symN n => exact step_symN hw ho.1 ho.2 neg
  | symK ns => exact step_symK hw.1 ho.1 ho.2 neg
  | symO o => exact step_symO hw ho neg
  | op o => exact step_op hw ho.1 ho.2
  | sign s => exact step_sign hw ho
end W
namespace W
open PySem PySem.Spec PyProof.Rows L2 Cm Lx
/-! ### which words must be parted -/
def isAl (c : Nat) : Bool := decide (c ∈ kLETTERS)
def lastD (t : List Nat) : Nat := t.getLast?.getD 0
def partsF (k1 t1 k2 t2 : List Nat) (neg : Bool) : Bool :=
  if k1 ∈ [kName, kInt, kSym] ∧ t2.headD 0 ∈ kDIGITS ∧ lastD t1 ≠ 39 then !decide (k1 = kSym) || isAl (t1.getD 1 0)
  else if k1 = kName then decide (k2 ∈ [kName, kKeyword]) || decide (t2 = [58])
  else if k1 = kSym ∧ lastD t1 = 58 then decide (k2 ∈ [kName, kKeyword]) || decide (t2.headD 0 = 61)
  else if k1 = kSym ∧ isAl (t1.getD 1 0) = true then decide (k2 ∈ [kName, kKeyword]) || decide (t2 = [58])
  else if k1 ∈ [kStr, kSym] ∧ lastD t1 = 39 then decide (t2.headD 0 = 39)
  else if k1 = kKeyword ∨ t1 = [58] then decide (t2.headD 0 = 61)
  else if k1 = kOp ∧ t1 = [45] ∧ t2.headD 0 ∈ kDIGITS then neg
  else decide (k1 ∈ [kOp, kSym]) && decide (k2 = kOp)
structure Beg (w : Wd) : Prop where
  ne : w.text ≠ []
  let_ : w.text.headD 0 ∈ kLETTERS → w.kind ∈ [kName, kKeyword]
  col : w.text.headD 0 = 58 → w.text = [58] ∨ w.text = [58, 61]
  eq : w.text.headD 0 = 61 → w.kind = kOp
theorem beg {w : Wd} (h : w.Wf) : Beg w := by
  cases w with
  | name n => exact ⟨h.ne, fun _ => List.mem_cons_self, fun z => absurd z (by have := h.hd; intro e; rw [show n.headD 0 = 58 from e] at this; exact absurd this (by decide)), fun z => absurd z (letter_ne h.hd).1⟩
  | kw n =>
    have e : (Wd.kw n).text.headD 0 = n.headD 0 := headD_app h.ne
    have hh : (Wd.kw n).text.headD 0 ∈ kLETTERS := by rw [e]; exact h.hd
    exact ⟨by simp [Wd.text], fun _ => List.mem_cons_of_mem _ List.mem_cons_self, fun z => absurd hh (by rw [z]; decide), fun z => absurd hh (by rw [z]; decide)⟩
  | int b d =>
    obtain ⟨g1, g2, g3⟩ := h
    have hd := headD_mem g1 g3
    cases b with
    | false =>
      have e : (Wd.int false d).text.headD 0 = d.headD 0 := rfl
      exact ⟨g1, fun z => absurd z (by rw [e]; exact (digit_ne hd).1), fun z => absurd z (by rw [e]; exact (digit_ne hd).2.2.2.2.2.2.2.2.2), fun z => absurd z (by rw [e]; exact (digit_ne hd).2.2.2.2.2.2.2.2.1)⟩
    | true =>
      have e : (Wd.int true d).text.headD 0 = 45 := rfl
      exact ⟨by simp [Wd.text], fun z => absurd z (by rw [e]; decide), fun z => absurd z (by rw [e]; decide), fun z => absurd z (by rw [e]; decide)⟩
  | str t =>
    have e : (Wd.str t).text.headD 0 = 39 := rfl
    exact ⟨by simp [Wd.text], fun z => absurd z (by rw [e]; decide), fun z => absurd z (by rw [e]; decide), fun z => absurd z (by rw [e]; decide)⟩
  | symS t =>
    have e : (Wd.symS t).text.headD 0 = 35 := rfl
    exact ⟨by simp [Wd.text], fun z => absurd z (by rw [e]; decide), fun z => absurd z (by rw [e]; decide), fun z => absurd z (by rw [e]; decide)⟩
  | symN t =>
    have e : (Wd.symN t).text.headD 0 = 35 := rfl
    exact ⟨by simp [Wd.text], fun z => absurd z (by rw [e]; decide), fun z => absurd z (by rw [e]; decide), fun z => absurd z (by rw [e]; decide)⟩
  | symK t =>
    have e : (Wd.symK t).text.headD 0 = 35 := rfl
    exact ⟨by simp [Wd.text], fun z => absurd z (by rw [e]; decide), fun z => absurd z (by rw [e]; decide), fun z => absurd z (by rw [e]; decide)⟩
  | symO t =>
    have e : (Wd.symO t).text.headD 0 = 35 := rfl
    exact ⟨by simp [Wd.text], fun z => absurd z (by rw [e]; decide), fun z => absurd z (by rw [e]; decide), fun z => absurd z (by rw [e]; decide)⟩
  | op o =>
    have k : ∀ o ∈ kOPERATORS_FIRST, o ≠ [] ∧ o.headD 0 ∉ kLETTERS ∧ o.headD 0 ≠ 58 := by decide
    obtain ⟨k1, k2, k3⟩ := k o h
    exact ⟨k1, fun z => absurd z k2, fun z => absurd z k3, fun _ => rfl⟩
  | sign s =>
    have k : ∀ s ∈ kSIGNS_FIRST, s ≠ [] ∧ s.headD 0 ∉ kLETTERS ∧ (s.headD 0 = 58 → s = [58] ∨ s = [58, 61]) ∧ s.headD 0 ≠ 61 := by decide
    obtain ⟨k1, k2, k3, k4⟩ := k s h
    exact ⟨k1, fun z => absurd z k2, k3, fun z => absurd z k4⟩
theorem lastD_app (a : List Nat) (c : Nat) : lastD (a ++ [c]) = c := by
  unfold lastD
  rw [List.getLast?_append]
  rfl
theorem lastD_mem {a : List Nat} (h : a ≠ []) : lastD a ∈ a := by
  unfold lastD
  rw [List.getLast?_eq_some_getLast h]
  exact List.getLast_mem h
theorem lastD_cons {c : Nat} {a : List Nat} (h : a ≠ []) : lastD (c :: a) = lastD a := by
  unfold lastD
  cases a with
  | nil => exact absurd rfl h
  | cons d a => rw [List.getLast?_cons_cons]
theorem name_sign {c : Nat} (h : c ∈ kNAME_SIGNS) : (c ∈ kLETTERS ∨ c ∈ kDIGITS) ∧ c ≠ 39 ∧ c ≠ 58 ∧ okc c = true := (show ∀ c ∈ kNAME_SIGNS, (c ∈ kLETTERS ∨ c ∈ kDIGITS) ∧ c ≠ 39 ∧ c ≠ 58 ∧ okc c = true by decide) c h
theorem get0_app {a r : List Nat} {x : Nat} (h : a ≠ []) (z : (a ++ r)[0]? = some x) : a.headD 0 = x := by
  have := get0 z
  rw [headD_app h] at this
  exact this
theorem name_follow {w : Wd} (h : w.Wf) {r : List Nat} (h1 : w.text.headD 0 ∉ kDIGITS) (h2 : w.kind ∉ [kName, kKeyword]) (h3 : w.text ≠ [58]) : (w.text ++ r).headD 0 ∉ kNAME_SIGNS ∧ ((w.text ++ r)[0]? = some 58 → (w.text ++ r)[1]? = some 61) := by
  have B := beg h
  refine ⟨fun z => ?_, fun z => ?_⟩
  · rw [headD_app B.ne] at z
    rcases (name_sign z).1 with z | z
    · exact h2 (B.let_ z)
    · exact h1 z
  · rcases B.col (get0_app B.ne z) with e | e
    · exact absurd e h3
    · rw [e]
      rfl
theorem parts_ok {w w' : Wd} {neg : Bool} (h : w.Wf) (h' : w'.Wf) (hp : partsF w.kind w.text w'.kind w'.text neg = false) (r : List Nat) : Okr neg (w'.text ++ r) w := by
  have B := beg h'
  have e61 : w'.kind ≠ kOp → (w'.text ++ r)[0]? ≠ some 61 := fun q z => q (B.eq (get0_app B.ne z))
  have n61 : w'.text.headD 0 ≠ 61 → (w'.text ++ r)[0]? ≠ some 61 := fun q z => q (get0_app B.ne z)
  have n39 : w'.text.headD 0 ≠ 39 → (w'.text ++ r)[0]? ≠ some 39 := fun q z => q (get0_app B.ne z)
  have hd : (w'.text ++ r).headD 0 = w'.text.headD 0 := headD_app B.ne
  unfold partsF at hp
  cases w with
  | name n =>
    rw [show (Wd.name n).kind = kName from rfl] at hp
    have he : lastD (Wd.name n).text ≠ 39 := (name_sign (h.all _ (lastD_mem h.ne))).2.1
    by_cases q : w'.text.headD 0 ∈ kDIGITS
    · rw [if_pos ⟨by decide, q, he⟩] at hp
      rw [show (!decide (kName = kSym)) = true by decide, Bool.true_or] at hp
      cases hp
    · rw [if_neg (fun z => q z.2.1), if_pos rfl, Bool.or_eq_false_iff, decide_eq_false_iff_not, decide_eq_false_iff_not] at hp
      exact name_follow h' q hp.1 hp.2
  | kw n =>
    rw [show (Wd.kw n).kind = kKeyword from rfl] at hp
    rw [if_neg (fun z => absurd z.1 (by decide)), if_neg (by decide), if_neg (fun z => absurd z.1 (by decide)), if_neg (fun z => absurd z.1 (by decide)), if_neg (fun z => absurd z.1 (by decide)), if_pos (.inl rfl), decide_eq_false_iff_not] at hp
    exact n61 hp
  | int b d =>
    rw [show (Wd.int b d).kind = kInt from rfl] at hp
    obtain ⟨g1, g2, g3⟩ := h
    have he : lastD (Wd.int b d).text ≠ 39 := by
      have e : lastD (Wd.int b d).text = lastD d := by
        cases b with
        | false => rfl
        | true => exact lastD_cons g1
      rw [e]
      exact (digit_ne (g3 _ (lastD_mem g1))).2.1
    by_cases q : w'.text.headD 0 ∈ kDIGITS
    · rw [if_pos ⟨by decide, q, he⟩] at hp
      rw [show (!decide (kInt = kSym)) = true by decide, Bool.true_or] at hp
      cases hp
    · show (w'.text ++ r).headD 0 ∉ kDIGITS
      rw [hd]
      exact q
  | str t =>
    rw [show (Wd.str t).kind = kStr from rfl] at hp
    have he : lastD (Wd.str t).text = 39 := lastD_app (39 :: esc t) 39
    rw [if_neg (fun z => absurd z.1 (by decide)), if_neg (by decide), if_neg (fun z => absurd z.1 (by decide)), if_neg (fun z => absurd z.1 (by decide)), if_pos ⟨by decide, he⟩, decide_eq_false_iff_not] at hp
    exact n39 hp
  | symS t =>
    rw [show (Wd.symS t).kind = kSym from rfl] at hp
    have he : lastD (Wd.symS t).text = 39 := lastD_app (35 :: 39 :: esc t) 39
    rw [if_neg (fun z => z.2.2 he), if_neg (by decide), if_neg (fun z => by rw [he] at z; exact absurd z.2 (by decide)), if_neg (fun z => absurd z.2 (by show ¬ isAl 39 = true; decide)), if_pos ⟨by decide, he⟩, decide_eq_false_iff_not] at hp
    exact n39 hp
  | symN n =>
    rw [show (Wd.symN n).kind = kSym from rfl] at hp
    have e : lastD (Wd.symN n).text = lastD n := lastD_cons h.ne
    have hm := name_sign (h.all _ (lastD_mem h.ne))
    have ha : isAl ((Wd.symN n).text.getD 1 0) = true := by
      cases n with
      | nil => exact absurd rfl h.ne
      | cons c n => exact decide_eq_true h.hd
    by_cases q : w'.text.headD 0 ∈ kDIGITS
    · rw [if_pos ⟨by decide, q, by rw [e]; exact hm.2.1⟩, ha, Bool.or_true] at hp
      cases hp
    · rw [if_neg (fun z => q z.2.1), if_neg (by decide), if_neg (fun z => hm.2.2.1 (by rw [← e]; exact z.2)), if_pos ⟨rfl, ha⟩, Bool.or_eq_false_iff, decide_eq_false_iff_not, decide_eq_false_iff_not] at hp
      exact name_follow h' q hp.1 hp.2
  | symK ns =>
    rw [show (Wd.symK ns).kind = kSym from rfl] at hp
    obtain ⟨⟨g1, g2⟩, g3⟩ := h
    have e : lastD (Wd.symK ns).text = 58 := by
      obtain ⟨ms, m, rfl⟩ : ∃ ms m, ns = ms ++ [m] := ⟨ns.dropLast, ns.getLast g1, (List.dropLast_concat_getLast g1).symm⟩
      have : (Wd.symK (ms ++ [m])).text = (35 :: (kwsT ms ++ m)) ++ [58] := by
        simp [Wd.text, kwsT]
      rw [this]
      exact lastD_app _ _
    have ha : isAl ((Wd.symK ns).text.getD 1 0) = true := by
      cases ns with
      | nil => exact absurd rfl g1
      | cons n ns =>
        have hn := g2 n List.mem_cons_self
        cases n with
        | nil => exact absurd rfl hn.ne
        | cons c n => exact decide_eq_true hn.hd
    by_cases q : w'.text.headD 0 ∈ kDIGITS
    · rw [if_pos ⟨by decide, q, by rw [e]; decide⟩, ha, Bool.or_true] at hp
      cases hp
    · rw [if_neg (fun z => q z.2.1), if_neg (by decide), if_pos ⟨rfl, e⟩, Bool.or_eq_false_iff, decide_eq_false_iff_not, decide_eq_false_iff_not] at hp
      exact ⟨n61 hp.2, by rw [hd]; exact fun z => hp.1 (B.let_ z)⟩
  | symO o =>
    rw [show (Wd.symO o).kind = kSym from rfl] at hp
    have k : ∀ o ∈ kOPERATORS_FIRST, o ≠ [] ∧ lastD (35 :: o) ≠ 39 ∧ lastD (35 :: o) ≠ 58 ∧ isAl ((35 :: o).getD 1 0) = false := by decide
    obtain ⟨k1, k2, k3, k4⟩ := k o h
    by_cases q : w'.text.headD 0 ∈ kDIGITS
    · exact n61 (digit_ne q).2.2.2.2.2.2.2.2.1
    · rw [if_neg (fun z => q z.2.1), if_neg (by decide), if_neg (fun z => k3 z.2), if_neg (fun z => by have := z.2; rw [show isAl ((Wd.symO o).text.getD 1 0) = false from k4] at this; cases this), if_neg (fun z => k2 z.2),
        if_neg (fun z => by
          rcases z with z | z
          · exact absurd z (by decide)
          · cases z), if_neg (fun z => absurd z.1 (by decide))] at hp
      exact e61 fun z => by
        rw [z] at hp
        exact absurd hp (by decide)
  | op o =>
    rw [show (Wd.op o).kind = kOp from rfl] at hp
    have k : ∀ o ∈ kOPERATORS_FIRST, o ≠ [58] := by decide
    have k1 := k o h
    have f : ∀ (x : Bool), (if (Wd.op o).kind ∈ [kName, kInt, kSym] ∧ w'.text.headD 0 ∈ kDIGITS ∧ lastD (Wd.op o).text ≠ 39 then x else x) = x := fun x => by split <;> rfl
    rw [if_neg (fun z => absurd z.1 (by decide)), if_neg (by decide), if_neg (fun z => absurd z.1 (by decide)), if_neg (fun z => absurd z.1 (by decide)), if_neg (fun z => absurd z.1 (by decide)),
      if_neg (fun z => by
        rcases z with z | z
        · exact absurd z (by decide)
        · exact k1 z)] at hp
    by_cases q : o = [45] ∧ w'.text.headD 0 ∈ kDIGITS
    · rw [if_pos ⟨rfl, q.1, q.2⟩] at hp
      exact ⟨n61 (digit_ne q.2).2.2.2.2.2.2.2.2.1, fun _ z => by rw [hp] at z; cases z⟩
    · rw [if_neg (fun z => q ⟨z.2.1, z.2.2⟩)] at hp
      refine ⟨e61 fun z => ?_, fun z _ => by rw [hd]; exact fun y => q ⟨z, y⟩⟩
      rw [z] at hp
      exact absurd hp (by decide)
  | sign s =>
    rw [show (Wd.sign s).kind = kSign from rfl] at hp
    intro z
    have z' : (Wd.sign s).text = [58] := z
    rw [if_neg (fun z => absurd z.1 (by decide)), if_neg (by decide), if_neg (fun z => absurd z.1 (by decide)), if_neg (fun z => absurd z.1 (by decide)), if_neg (fun z => absurd z.1 (by decide)), if_pos (.inr z'), decide_eq_false_iff_not] at hp
    exact n61 hp
end W
namespace W
open PySem PySem.Spec PyProof.Rows L2 Cm Lx
/-! ### the source as it grows -/
def negB (wi : List Bool) : Option Wd → Bool
  | none => true
  | some w => if wi.getLast? = some true then true else !decide (w.kind ∈ kENDS) && !decide (w.text ∈ kCLOSING)
def openF (wi : List Bool) (k t : List Nat) : List Bool :=
  if k = kSign ∧ t ∈ [[35, 40], [40]] then wi ++ [decide (t = [35, 40]) || decide (wi.getLast? = some true)]
  else if k = kSign ∧ t = [41] then wi.dropLast else wi
theorem sv_inj {a b : List Nat} : Sv a = Sv b ↔ a = b := by
  constructor
  · intro h
    simpa [Sv] using h
  · intro h
    rw [h]
theorem note_open (wi : List Bool) (w : Wd) : noteSign wi w.kind w.val = openF wi w.kind w.text := by
  by_cases hk : w.kind = kSign
  · cases w with
    | sign s =>
      unfold noteSign openF
      simp only [show (Wd.sign s).kind = kSign from rfl, show (Wd.sign s).val = Sv s from rfl, show (Wd.sign s).text = s from rfl, sv_inj, true_and, List.mem_cons, List.not_mem_nil, or_false]
      by_cases h1 : s = [35, 40] ∨ s = [40]
      · rw [if_pos h1, if_pos h1, if_neg]
        rintro ⟨z, _⟩
        rcases h1 with rfl | rfl <;> cases z
      · rw [if_neg h1, if_neg h1]
        by_cases h2 : s = [41]
        · rw [if_pos h2]
          cases wi with
          | nil => simp
          | cons b bs => rw [if_pos ⟨h2, by simp⟩]
        · rw [if_neg h2, if_neg (fun z => h2 z.1)]
    | _ => exact absurd hk (by simp [Wd.kind, kName, kKeyword, kInt, kStr, kSym, kOp, kSign])
  · unfold noteSign openF
    simp only [hk, false_and, if_false]
theorem may_neg {w : Wd} (h : w.Wf) (ws : Toks) (p : Nat) (wi : List Bool) : mayNeg (ws ++ [(w.kind, w.val, p)]) wi = negB wi (some w) := by
  unfold mayNeg negB
  rw [List.getLast?_append]
  simp only [List.getLast?_singleton, Option.some_or]
  split
  · rfl
  · congr 1
    cases w with
    | sign s =>
      simp only [show (Wd.sign s).kind = kSign from rfl, show (Wd.sign s).val = Sv s from rfl, show (Wd.sign s).text = s from rfl, decide_true, Bool.true_and]
      congr 1
      exact (show ∀ s ∈ kSIGNS_FIRST, inV (Sv s) (kCLOSING.map Sv) = decide (s ∈ kCLOSING) by decide +kernel) s h
    | op o =>
      have k : ∀ o ∈ kOPERATORS_FIRST, (!decide (o ∈ kCLOSING)) = true := by decide
      have e : decide ((Wd.op o).kind = kSign) = false := by show decide (kOp = kSign) = false; decide
      rw [e, Bool.false_and]
      exact (k o h).symm
    | kw n =>
      have e : decide ((Wd.kw n).kind = kSign) = false := by show decide (kKeyword = kSign) = false; decide
      rw [e, Bool.false_and]
      have : ¬ (Wd.kw n).text ∈ kCLOSING := fun z => by
        have hl : lastD (Wd.kw n).text = 58 := lastD_app n 58
        have := (show ∀ t ∈ kCLOSING, lastD t ≠ 58 by decide) _ z
        exact this hl
      rw [decide_eq_false this]
    | name n =>
      have e : decide ((Wd.name n).kind = kSign) = false := by show decide (kName = kSign) = false; decide
      rw [e, Bool.false_and]
      have : ¬ (Wd.name n).text ∈ kCLOSING := fun z => absurd h.hd ((show ∀ t ∈ kCLOSING, t.headD 0 ∉ kLETTERS by decide) _ z)
      rw [decide_eq_false this]
    | int b d =>
      have e : decide ((Wd.int b d).kind = kSign) = false := by show decide (kInt = kSign) = false; decide
      rw [e, Bool.false_and]
      have : ¬ (Wd.int b d).text ∈ kCLOSING := fun z => by
        have h2 := (show ∀ t ∈ kCLOSING, t.headD 0 ∉ kDIGITS ∧ t.headD 0 ≠ 45 by decide) _ z
        cases b with
        | false => exact h2.1 (headD_mem h.1 h.2.2)
        | true => exact h2.2 rfl
      rw [decide_eq_false this]
    | str t =>
      have e : decide ((Wd.str t).kind = kSign) = false := by show decide (kStr = kSign) = false; decide
      rw [e, Bool.false_and]
      have : ¬ (Wd.str t).text ∈ kCLOSING := fun z => absurd rfl ((show ∀ t ∈ kCLOSING, t.headD 0 ≠ 39 by decide) _ z)
      rw [decide_eq_false this]
    | _ =>
      rename_i q
      have e : decide (kSym = kSign) = false := by decide
      show (!(decide (kSym = kSign) && _)) = _
      rw [e, Bool.false_and]
      have k := (show ∀ t ∈ kCLOSING, t.headD 0 ≠ 35 by decide)
      rw [decide_eq_false (fun z => k _ z rfl)]
/-! ### what the words hold -/
theorem okc_mem {t : List Nat} (h : t.all okc = true) : ∀ c ∈ t, okc c = true := List.all_eq_true.mp h
theorem okc_lt {c : Nat} (h : okc c = true) : c < 0x110000 := by
  unfold okc at h
  simp at h
  omega
theorem strOk_of {l : List Nat} (h : ∀ c ∈ l, okc c = true) : PyData.strOk ⟨l.toArray⟩ = true := by
  have e : PyData.strOk ⟨l.toArray⟩ = l.all (· < 0x110000) := by simp [PyData.strOk]
  rw [e, List.all_eq_true]
  exact fun c hc => decide_eq_true (okc_lt (h c hc))
theorem name_okc {n : List Nat} (h : IsName n) : ∀ c ∈ n, okc c = true := fun c hc => (name_sign (h.all c hc)).2.2.2
theorem esc_mem {t : List Nat} {c : Nat} (h : c ∈ esc t) : c = 39 ∨ c ∈ t := by
  obtain ⟨x, hx, hc⟩ := List.mem_flatMap.mp h
  split at hc
  · simp at hc
    exact .inl hc
  · simp at hc
    rw [hc]
    exact .inr hx
theorem esc_len (t : List Nat) : (esc t).length ≤ 2 * t.length := by
  induction t with
  | nil => exact Nat.le_refl _
  | cons c t ih =>
    show ((if c = 39 then [39, 39] else [c]) ++ esc t).length ≤ _
    rw [List.length_append, List.length_cons]
    split <;> simp only [List.length_cons, List.length_nil] <;> omega
theorem kwsT_mem : ∀ {ns : List (List Nat)} {c : Nat}, (∀ n ∈ ns, IsName n) → c ∈ kwsT ns → okc c = true := by
  intro ns c h hc
  obtain ⟨l, hl, hcl⟩ := List.mem_flatten.mp hc
  obtain ⟨n, hn, rfl⟩ := List.mem_map.mp hl
  rcases List.mem_append.mp hcl with z | z
  · exact name_okc (h n hn) c z
  · simp at z
    rw [z]
    decide
theorem kwsT_len : ∀ {ns : List (List Nat)}, (∀ n ∈ ns, IsName n) → (kwsT ns).length ≤ 41 * ns.length
  | [], _ => Nat.le_refl _
  | n :: ns, h => by
    have := (h n List.mem_cons_self).len
    have ih := kwsT_len fun m hm => h m (List.mem_cons_of_mem _ hm)
    rw [kwsT_cons, List.length_append, List.length_cons, List.length_cons]
    omega
theorem wd_okc {w : Wd} (h : w.Wf) : ∀ c ∈ w.text, okc c = true := by
  have q39 : okc 39 = true := by decide
  have q35 : okc 35 = true := by decide
  have cons : ∀ {a : Nat} {l : List Nat}, okc a = true → (∀ c ∈ l, okc c = true) → ∀ c ∈ a :: l, okc c = true := fun ha hl c hc => by
    rcases List.mem_cons.mp hc with rfl | hc
    · exact ha
    · exact hl c hc
  have str : ∀ {t : List Nat}, t.all okc = true → ∀ c ∈ esc t ++ [39], okc c = true := fun {t} ht c hc => by
    rcases List.mem_append.mp hc with hc | hc
    · rcases esc_mem hc with rfl | hc
      · exact q39
      · exact okc_mem ht c hc
    · simp at hc
      rw [hc]
      exact q39
  cases w with
  | name n => exact name_okc h
  | kw n =>
    intro c hc
    rcases List.mem_append.mp hc with hc | hc
    · exact name_okc h c hc
    · simp at hc
      rw [hc]
      decide
  | int b d =>
    have hd : ∀ c ∈ d, okc c = true := fun c hc => (show ∀ c ∈ kDIGITS, okc c = true by decide) c (h.2.2 c hc)
    cases b with
    | false => exact hd
    | true => exact cons (by decide) hd
  | str t => exact cons q39 (str h.1)
  | symS t => exact cons q35 (cons q39 (str h.1))
  | symN n => exact cons q35 (name_okc h)
  | symK ns => exact cons q35 fun c hc => kwsT_mem h.1.2 hc
  | symO o => exact cons q35 ((show ∀ o ∈ kOPERATORS_FIRST, ∀ c ∈ o, okc c = true by decide) o h)
  | op o => exact (show ∀ o ∈ kOPERATORS_FIRST, ∀ c ∈ o, okc c = true by decide) o h
  | sign s => exact (show ∀ o ∈ kSIGNS_FIRST, ∀ c ∈ o, okc c = true by decide) s h
theorem wd_len {w : Wd} (h : w.Wf) : w.text.length ≤ 130 := by
  cases w with
  | name n => exact Nat.le_trans h.len (by decide)
  | kw n =>
    have := h.len
    simp only [Wd.text, List.length_append, List.length_cons, List.length_nil]
    omega
  | int b d =>
    have := h.2.1
    cases b <;> simp [Wd.text] <;> omega
  | str t =>
    have := h.2
    have := esc_len t
    simp only [Wd.text, List.length_append, List.length_cons, List.length_nil]
    omega
  | symS t =>
    have := h.2
    have := esc_len t
    simp only [Wd.text, List.length_append, List.length_cons, List.length_nil]
    omega
  | symN n =>
    have := h.len
    simp only [Wd.text, List.length_cons]
    omega
  | symK ns =>
    have := kwsT_len h.1.2
    have := h.2
    simp only [Wd.text, List.length_cons]
    omega
  | symO o => exact (show ∀ o ∈ kOPERATORS_FIRST, o.length + 1 ≤ 130 by decide) o h
  | op o => exact (show ∀ o ∈ kOPERATORS_FIRST, o.length ≤ 130 by decide) o h
  | sign s => exact (show ∀ o ∈ kSIGNS_FIRST, o.length ≤ 130 by decide) s h
/-! ### gaps -/
structure Gp (g : List Nat) : Prop where
  sk : Skips g
  hd : g = [] ∨ g.headD 0 ∈ [32, 10, 34]
  ok : ∀ c ∈ g, okc c = true
  len : g.length ≤ 130
structure Src (src : List Nat) (due : Toks) (wi : List Bool) (last : Option Wd) (ahead : Bool) : Prop where
  lx : ∀ r, (∀ w, last = some w → Okr ahead r w) → lexR (src ++ r) 0 [] [] = lexR r src.length due wi
  may : mayNeg due wi = negB wi last
  wf : ∀ w, last = some w → w.Wf
  ok : ∀ c ∈ src, okc c = true
theorem src_nil (b : Bool) : Src [] [] [] none b := ⟨fun r _ => rfl, rfl, (fun w z => by cases z), (fun c hc => by cases hc)⟩
theorem Wf.not_blank {w : Wd} (h : w.Wf) : w.text.headD 0 ≠ 32 ∧ w.text.headD 0 ≠ 10 ∧ w.text.headD 0 ≠ 34 := by
  cases w with
  | name n => exact ⟨(letter_ne h.hd).2.2.2.2.1, (letter_ne h.hd).2.2.2.2.2.1, (letter_ne h.hd).2.2.2.2.2.2.1⟩
  | kw n =>
    have e : (Wd.kw n).text.headD 0 = n.headD 0 := headD_app h.ne
    rw [e]
    exact ⟨(letter_ne h.hd).2.2.2.2.1, (letter_ne h.hd).2.2.2.2.2.1, (letter_ne h.hd).2.2.2.2.2.2.1⟩
  | int b d =>
    cases b with
    | false =>
      have q := digit_ne (headD_mem h.1 h.2.2)
      exact ⟨q.2.2.2.2.2.1, q.2.2.2.2.2.2.1, q.2.2.2.2.2.2.2.1⟩
    | true => exact ⟨show 45 ≠ 32 by decide, show 45 ≠ 10 by decide, show 45 ≠ 34 by decide⟩
  | op o =>
    have q := (op_chars h).2.2.2.2.2.2
    simp only [List.mem_cons, List.not_mem_nil, or_false, not_or] at q
    exact q
  | sign s =>
    have q := (sign_chars h).2.2.2.2.2.2
    simp only [List.mem_cons, List.not_mem_nil, or_false, not_or] at q
    exact q
  | _ => exact ⟨by show ¬ _ = _; simp [Wd.text], by show ¬ _ = _; simp [Wd.text], by show ¬ _ = _; simp [Wd.text]⟩
theorem Src.step {src : List Nat} {due : Toks} {wi : List Bool} {last : Option Wd} {ahead : Bool} {w : Wd} {g : List Nat} (S : Src src due wi last ahead) (hw : w.Wf) (hm : w.May (negB wi last)) (G : Gp g)
    (hp : g = [] → ∀ v, last = some v → partsF v.kind v.text w.kind w.text ahead = false) :
    Src (src ++ g ++ w.text) (due ++ [(w.kind, w.val, (src ++ g).length)]) (openF wi w.kind w.text) (some w) (negB wi last) := by
  have B := beg hw
  have nb := Wf.not_blank hw
  refine ⟨fun r hr => ?_, ?_, fun v hv => by cases hv; exact hw, fun c hc => ?_⟩
  · have hk : ∀ v, last = some v → Okr ahead (g ++ (w.text ++ r)) v := fun v hv => by
      rcases G.hd with e | e
      · rw [e]
        exact parts_ok (S.wf v hv) hw (hp e v hv) r
      · have ne : g ≠ [] := fun z => by rw [z] at e; exact absurd e (by decide)
        refine okr_gap (by rw [headD_app ne]; exact List.mem_cons_of_mem _ e) (.inr ?_) v
        rw [headD_app ne]
        intro z
        rw [z] at e
        exact absurd e (by decide)
    have e1 : src ++ g ++ w.text ++ r = src ++ (g ++ (w.text ++ r)) := by simp
    rw [e1, S.lx _ hk, G.sk]
    have hst := word_step hw hm (hr w rfl)
    rw [← S.may] at hst
    have hne : w.text ++ r ≠ [] := fun z => B.ne (List.append_eq_nil_iff.mp z).1
    obtain ⟨c, q, hcq⟩ : ∃ c q, w.text ++ r = c :: q := List.exists_cons_of_ne_nil hne
    have hc : c = w.text.headD 0 := by
      have := headD_app (r := r) B.ne
      rw [hcq] at this
      exact this
    rw [hcq] at hst ⊢
    rw [lexR_cons, if_neg (by rw [hc]; intro z; rcases z with z | z; exact nb.1 z; exact nb.2.1 z), if_neg (by rw [hc]; exact nb.2.2), hst]
    show lexR ((c :: q).drop w.text.length) _ _ _ = _
    rw [← hcq, List.drop_append_of_le_length (Nat.le_refl _), List.drop_length, List.nil_append, note_open, List.length_append, List.length_append]
  · rw [may_neg hw]
  · rcases List.mem_append.mp hc with hc | hc
    · rcases List.mem_append.mp hc with hc | hc
      · exact S.ok c hc
      · exact G.ok c hc
    · exact wd_okc hw c hc
theorem Src.read {src : List Nat} {due : Toks} {wi : List Bool} {last : Option Wd} {ahead : Bool} (S : Src src due wi last ahead) (hl : src.length ≤ 2000) : wordsOf src = .ok due := by
  have h := S.lx [] fun w _ => okr_gap (by decide) (.inl rfl) w
  rw [List.append_nil] at h
  have h2 : lex src = .ok due := h
  unfold wordsOf
  rw [if_pos ⟨List.all_eq_true.mpr S.ok, hl⟩, h2]
/-- none begins at q -/
structure Bad (b : List Nat) (q : Nat) : Prop where
  er : ∀ p ws wi, lexR b p ws wi = .error (p + q)
  ok : ∀ c ∈ b, okc c = true
  len : b.length ≤ 130
theorem Src.bad {src b : List Nat} {q : Nat} {due : Toks} {wi : List Bool} {last : Option Wd} {ahead : Bool} (S : Src src due wi last ahead) (hl : src.length ≤ 1800) (B : Bad b q) : wordsOf (src ++ 32 :: b) = .error ((src.length + 1 + q : Nat) : Int) := by
  have h := S.lx (32 :: b) fun w _ => okr_gap (by show 32 ∈ _; decide) (.inr (by show ¬ 32 = 0; decide)) w
  rw [lexR_cons, if_pos (.inl rfl), B.er] at h
  have h2 : lex (src ++ 32 :: b) = .error (src.length + 1 + q) := h
  have := B.len
  unfold wordsOf
  have ok : (src ++ 32 :: b).all okc = true := List.all_eq_true.mpr fun c hc => by
    rcases List.mem_append.mp hc with hc | hc
    · exact S.ok c hc
    · rcases List.mem_cons.mp hc with rfl | hc
      · decide
      · exact B.ok c hc
  rw [if_pos ⟨ok, by rw [List.length_append, List.length_cons]; omega⟩, h2]
end W
namespace W
open PySem PySem.Spec PyProof.Rows L2 Cm Lx
abbrev s__law_name : Stmt := topS 39
theorem sc__law_name : FnScope ["_law_bag_here", "_law_letters", "_law_size", "_law_name_here", "_law_turn"] ["_law_bag_here"] (defScope s__law_name) := ⟨rfl, rfl, rfl, by decide +kernel, rfl, by decide +kernel, by decide +kernel⟩
abbrev s__law_text : Stmt := topS 40
theorem sc__law_text : FnScope ["_law_bag_here", "_law_signs", "_law_turn"] ["_law_bag_here"] (defScope s__law_text) := ⟨rfl, rfl, rfl, by decide +kernel, rfl, by decide +kernel, by decide +kernel⟩
abbrev s__law_string : Stmt := topS 41
theorem sc__law_string : FnScope ["_law_text_here"] ["_law_text_here"] (defScope s__law_string) := ⟨rfl, rfl, rfl, by decide +kernel, rfl, by decide +kernel, by decide +kernel⟩
abbrev s__law_operator : Stmt := topS 42
theorem sc__law_operator : FnScope ["_law_bag_here"] ["_law_bag_here"] (defScope s__law_operator) := ⟨rfl, rfl, rfl, by decide +kernel, rfl, by decide +kernel, by decide +kernel⟩
abbrev s__law_integer : Stmt := topS 43
theorem sc__law_integer : FnScope ["_law_bag_here", "_law_negative_here", "_law_size", "_law_digits", "_law_turn"] ["_law_bag_here", "_law_negative_here"] (defScope s__law_integer) := ⟨rfl, rfl, rfl, by decide +kernel, rfl, by decide +kernel, by decide +kernel⟩
structure Mn (K : PySem.W.Frag) (mg : Str → Option Value) : Prop where
  mb : Mb K mg
  a__law_name : At K mg "_law_name" s__law_name
  a__law_text : At K mg "_law_text" s__law_text
  a__law_string : At K mg "_law_string" s__law_string
  a__law_operator : At K mg "_law_operator" s__law_operator
  a__law_integer : At K mg "_law_integer" s__law_integer
  g_range : mg "range" = none
  g_int : mg "int" = none
/-- the bag at p: at most m taken by its counter -/
def Bag (m : Int) (H : Hp) (p : Addr) : Prop := ∃ A B C : Int, H p = some (.lst [.int A, .int B, .int C]) ∧ 0 ≤ B ∧ B < 10 ^ 41 ∧ 0 ≤ C ∧ C ≤ m
def spTk : Sp := fun vs H Q _ => ∃ (p : Addr) (m many : Int), vs = [.ref p, .int many] ∧ Bag m H p ∧ m < 10 ^ 9 ∧ 0 < many ∧ many ≤ 10 ^ 8 ∧ ∀ (n : Nat) H', But p H H' → Bag (m + 1) H' p → (n : Int) < many → Q (.int n) H'
def spPk (K : PySem.W.Frag) : Sp := fun vs H Q _ => ∃ (p c : Addr) (m : Int) (xs : List V), vs = [.ref p, .ref c] ∧ Bag m H p ∧ m < 10 ^ 9 ∧ SqL K H c xs ∧ c ≠ p ∧ 0 < xs.length ∧ xs.length ≤ 100000 ∧
  ∀ x H', But p H H' → Bag (m + 1) H' p → x ∈ xs → Q x H'
def spPkS : Sp := fun vs H Q _ => ∃ (p : Addr) (m : Int) (t : List Nat), vs = [.ref p, S t] ∧ Bag m H p ∧ m < 10 ^ 9 ∧ 0 < t.length ∧ t.length ≤ 100000 ∧
  ∀ c H', But p H H' → Bag (m + 1) H' p → c ∈ t → Q (S [c]) H'
theorem Bag.np {G : Hp} {p q : Addr} {n : Int} (b : Bag n G p) (e : G q = none) : q ≠ p := fun z => by
  obtain ⟨A, B, C, h, _⟩ := b
  rw [z, h] at e
  cases e
theorem Bag.same {G G' : Hp} {p : Addr} {n : Int} (b : Bag n G p) (s : Same G G') : Bag n G' p := by
  obtain ⟨A, B, C, h, r⟩ := b
  exact ⟨A, B, C, s _ _ h, r⟩
theorem Bag.mono {G : Hp} {p : Addr} {m n : Int} (b : Bag m G p) (h : m ≤ n) : Bag n G p := by
  obtain ⟨A, B, C, h1, h2, h3, h4, h5⟩ := b
  exact ⟨A, B, C, h1, h2, h3, h4, Int.le_trans h5 h⟩
theorem str_app (a b : List Nat) : (⟨a.toArray⟩ : Str) ++ (⟨b.toArray⟩ : Str) = ⟨(a ++ b).toArray⟩ := by
  show (⟨a.toArray ++ b.toArray⟩ : Str) = _
  simp
theorem joinL_nil : ∀ ys : List (List Nat), TL.joinL [] ys = ys.flatten
  | [] => rfl
  | [p] => by simp [TL.joinL]
  | p :: q :: r => by
    rw [TL.joinL, joinL_nil (q :: r)]
    rfl
theorem join_nil (ys : List (List Nat)) : Txt.join ⟨([] : List Nat).toArray⟩ (ys.map fun l => (⟨l.toArray⟩ : Str)) = ⟨ys.flatten.toArray⟩ := by
  have := SX.join_S [] ys
  rw [joinL_nil] at this
  exact this
theorem join_chars (t : List Nat) : Txt.join ⟨([] : List Nat).toArray⟩ (t.map fun c => (⟨[c].toArray⟩ : Str)) = ⟨t.toArray⟩ := by
  have := join_nil (t.map fun c => [c])
  rw [List.map_map] at this
  have e : ∀ t : List Nat, (t.map fun c => [c]).flatten = t := fun t => by
    induction t with
    | nil => rfl
    | cons c t ih =>
      show c :: (t.map fun c => [c]).flatten = _
      rw [ih]
  rw [e] at this
  exact this
def signsT : List Nat := [32, 33, 34, 35, 36, 38, 39, 40, 41, 42, 43, 44, 45, 46, 47, 48, 49, 50, 51, 52, 53, 54, 55, 56, 57, 58, 59, 60, 61, 62, 63, 64, 65, 66, 67, 68, 69, 70, 71, 72, 73, 74, 75, 76, 77, 78, 79, 80, 81, 82, 83, 84, 85, 86, 87, 88, 89, 90, 91, 92, 93, 94, 95, 96, 97, 98, 99, 100, 101, 102, 103, 104, 105, 106, 107, 108, 109, 110, 111, 112, 113, 114, 115, 116, 117, 118, 119, 120, 121, 122, 123, 124, 125, 126, 10, 39]
section
variable {P : Program} {w : World} {K : PySem.W.Frag} {mg : Str → Option Value} {base : Heap} {CB : Addr}
theorem ok_tk (M : Mb K mg) : Ok P w K mg base 1 "_law_take" ["_law_bag_here", "_law_many"] spTk := (ok__law_take M).imp fun vs H Q E h => by
  obtain ⟨p, m, many, rfl, ⟨A, B, C, hb, b0, b1, c0, c1⟩, hm, m0, m1, k⟩ := h
  refine ⟨p, A, B, C, many, rfl, hb, b0, b1, c0, by omega, m0, m1, fun n A' C' H' bt hb' n0 n1 q0 q1 => ?_⟩
  obtain ⟨j, rfl⟩ : ∃ j : Nat, n = (j : Int) := ⟨n.toNat, by omega⟩
  exact k j H' bt ⟨A', B, C', hb', b0, b1, by omega, by omega⟩ n1
theorem ok_pk (M : Mb K mg) : Ok P w K mg base 2 "_law_pick" ["_law_bag_here", "_law_things"] (spPk K) := (ok__law_pick M).imp fun vs H Q E h => by
  obtain ⟨p, c, m, xs, rfl, ⟨A, B, C, hb, b0, b1, c0, c1⟩, hm, hx, ncp, l0, l1, k⟩ := h
  exact ⟨p, c, A, B, C, xs, rfl, hb, b0, b1, c0, by omega, hx, ncp, l0, l1, fun i x A' C' H' bt hb' hi q0 q1 => k x H' bt ⟨A', B, C', hb', b0, b1, by omega, by omega⟩ (List.mem_of_getElem? hi)⟩
theorem ok_pks (M : Mb K mg) : Ok P w K mg base 2 "_law_pick" ["_law_bag_here", "_law_things"] spPkS := by
  refine mk M.a__law_pick sc__law_pick (fun _ _ _ _ _ _ us hl => match us, hl with | [_, _], _ => rfl) (fun vs H Q E h => ?_) (fun f cdv A outer s H vs Q E hr h => ?_)
  · obtain ⟨p, m, t, rfl, _⟩ := h
    rfl
  · obtain ⟨p, m, t, rfl, ⟨A, B, C, hb, b0, b1, c0, c1⟩, hm, l0, l1, kk⟩ := h
    refine ⟨_, (pss_one (ps_ret (pe_ix ix_seq (pv 1) (pc (ok__law_take M) (hr.mono (by decide)) (by rfl) psb (pa_cons (pv 0) (pa_cons (pe_callB call_len (by rfl) M.g_len PySem.boot_len (pa_cons (pv 1) pa_nil)) pa_nil))) (fun _ _ => rfl)))), ?_⟩
    show tRet _ _ [some (.ref p), some (S t)] H
    simp only [L2.tSeq, L2.tRet, L2.tVar, L2.tAnd, L2.tOr, L2.tNot, L2.tTest, L2.tOp, L2.tUn, L2.rU, L2.tCB, L2.tCons, L2.tNil, L2.rIxS, L2.rI0, L2.rI, L2.rEq, L2.rNe, L2.tAug, L2.ipI, L2.tC, L2.tIfS, L2.tIf, L2.tCall, L2.tAsg, L2.gName, L2.tSl, L2.rSlS, L2.tPart, L2.tNoPart, L2.tBM, L2.tBM0, L2.tB, L2.tAndV, L2.tOrV, L2.tNotV, L2.tDrop, L2.tNext, L2.tChain, L2.tPar, L2.tPar3, Cm.tErr, Cm.tGT, L2.tTup, L2.tLst,
  List.getElem?_cons_zero, List.getElem?_cons_succ, Option.some.injEq, exists_eq_left', exists_eq_left, exists_eq', exists_eq, exists_and_left, exists_and_right, exists_const, List.cons.injEq, and_true, true_and, L2.V.str.injEq, L2.V.int.injEq, L2.V.bl.injEq, L2.V.ref.injEq, PySem.Str.mk.injEq, Tx.arr1, Tx.str_len, Tx.at_nat, Tx.cut_nat, Tx.find_one,
  and_assoc, Int.ofNat_inj, Nat.add_sub_cancel_left, Lx.take1_eq, decide_eq_true_eq, Bool.not_eq_true', decide_eq_false_iff_not, Int.ofNat_lt, Int.ofNat_le, Bool.false_eq_true, if_false, if_true, List.set_cons_zero, List.set_cons_succ, List.append_nil, List.nil_append, ↓reduceIte, Cm.nat_succ, Cm.nat_add, Cm.nat_two, List.toList_toArray, not_true, not_false_iff, Cm.toArr_inj, Cm.two_one, Cm.tyV_str, Cm.scal_ss, Cm.scal_ii, Cm.scal_bb, Cm.cb_K, reduceCtorEq, false_and, exists_false, or_false, false_or, List.map_cons, List.map_nil, rIx, rIxS]
    have hz : (⟨t.toArray⟩ : Str).length ≤ sizeLine := by rw [Tx.str_len]; exact szl l1
    refine ⟨_, ⟨hz, rfl⟩, p, A, B, C, _, rfl, hb, b0, b1, c0, by omega, by rw [Tx.str_len]; omega, by rw [Tx.str_len]; omega, ?_⟩
    intro n A' C' H' bt hb' n0 n1 q0 q1
    rw [Tx.str_len] at n1
    obtain ⟨m', rfl⟩ : ∃ m : Nat, n = (m : Int) := ⟨n.toNat, by omega⟩
    have hm' : m' < t.length := by omega
    exact .inr (.inr ⟨_, rfl, szl l1, t[m'], by rw [Tx.at_nat]; simp [hm'], kk t[m'] H' bt ⟨A', B, C', hb', b0, b1, by omega, by omega⟩ (List.getElem_mem hm')⟩)
def spName : Sp := fun vs H Q _ => ∃ (p : Addr) (m : Int), vs = [.ref p] ∧ Bag m H p ∧ m + 50 < 10 ^ 9 ∧ ∀ n H', But p H H' → Bag (m + 50) H' p → IsName n → Q (S n) H'
def spText : Sp := fun vs H Q _ => ∃ (p : Addr) (m : Int), vs = [.ref p] ∧ Bag m H p ∧ m + 20 < 10 ^ 9 ∧ ∀ t H', But p H H' → Bag (m + 20) H' p → t.all okc = true → t.length ≤ 8 → Q (S t) H'
def spString : Sp := fun vs H Q _ => ∃ t, vs = [S t] ∧ t.length ≤ 1000 ∧ Q (S (39 :: (esc t ++ [39]))) H
def spOper : Sp := fun vs H Q _ => ∃ (p : Addr) (m : Int), vs = [.ref p] ∧ Bag m H p ∧ m + 1 < 10 ^ 9 ∧ ∀ o H', But p H H' → Bag (m + 1) H' p → o ∈ kOPERATORS_FIRST → Q (S o) H'
def WdAt (H : Hp) (a : Addr) (w : Wd) : Prop := H a = some (.tup [S w.kind, w.val, S w.text])
def spInteger : Sp := fun vs H Q _ => ∃ (p : Addr) (m : Int) (neg : Bool), vs = [.ref p, .bl neg] ∧ Bag m H p ∧ m + 70 < 10 ^ 9 ∧ ∀ a w H', But p H H' → Bag (m + 70) H' p → w.Wf → w.May neg → WdAt H' a w → Q (.ref a) H'
def NameInv (p : Addr) (H : Hp) (m : Int) (k : Nat) (i : Nat) (σ : L2.St) (H' : Hp) : Prop := ∃ n v, σ = [some (.ref p), some (S kLETTERS), some (.int (k : Int)), some (S n), v] ∧ But p H H' ∧ Bag (m + 2 + i) H' p ∧ n ≠ [] ∧ n.length = i + 1 ∧ n.headD 0 ∈ kLETTERS ∧ ∀ c ∈ n, c ∈ kNAME_SIGNS
theorem ok__law_name (M : Mn K mg) : Ok P w K mg base 3 "_law_name" ["_law_bag_here"] spName := by
  refine mk M.a__law_name sc__law_name (fun _ _ _ _ _ _ us hl => match us, hl with | [_], _ => rfl) (fun vs H Q E h => ?_) (fun f cdv A outer s H vs Q E hr h => ?_)
  · obtain ⟨p, m, rfl, _⟩ := h
    rfl
  · obtain ⟨p, m, rfl, hb, hm, kk⟩ := h
    refine ⟨_, (pss_cons (ps_asg (pe_strL [97, 98, 99, 100, 101, 102, 103, 104, 105, 106, 107, 108, 109, 110, 111, 112, 113, 114, 115, 116, 117, 118, 119, 120, 121, 122, 65, 66, 67, 68, 69, 70, 71, 72, 73, 74, 75, 76, 77, 78, 79, 80, 81, 82, 83, 84, 85, 86, 87, 88, 89, 90]) (pg_name (i := 1) sc__law_name.nd rfl (.inl rfl)))
      (pss_cons (ps_asg (pc (ok_pk M.mb) (hr.mono (by decide)) (by rfl) psb (pa_cons (pv 0) (pa_cons (pe_lst (pa_cons pe_int (pa_cons pe_int (pa_cons pe_int (pa_cons pe_int (pa_cons pe_int (pa_cons pe_int (pa_cons pe_int (pa_cons pe_int pa_nil))))))))) pa_nil))) (pg_name (i := 2) sc__law_name.nd rfl (.inl rfl)))
      (pss_cons (ps_asg (pc (ok_pks M.mb) (hr.mono (by decide)) (by rfl) psb (pa_cons (pv 0) (pa_cons (pv 1) pa_nil))) (pg_name (i := 3) sc__law_name.nd rfl (.inl rfl)))
      (pss_cons (ps_for (passes_of rfl) rfl (pi_range1 (by rfl) M.g_range (pa_cons (pv 2) pa_nil)) (pg_name (i := 4) sc__law_name.nd rfl (.inl rfl))
      (pss_one (ps_asg (pe_op op_add_str (pv 3) (pc (ok_pks M.mb) (hr.mono (by decide)) (by rfl) psb (pa_cons (pv 0) (pa_cons (pe_op op_add_str (pv 1) (pe_strL [48, 49, 50, 51, 52, 53, 54, 55, 56, 57])) pa_nil)))) (pg_name (i := 3) sc__law_name.nd rfl (.inl rfl)))))
      (pss_one (ps_ret (pv 3))))))), ?_⟩
    show tSeq _ _ _ [some (.ref p), none, none, none, none] H
    simp only [L2.tSeq, L2.tRet, L2.tVar, L2.tAnd, L2.tOr, L2.tNot, L2.tTest, L2.tOp, L2.tUn, L2.rU, L2.tCB, L2.tCons, L2.tNil, L2.rIxS, L2.rI0, L2.rI, L2.rEq, L2.rNe, L2.tAug, L2.ipI, L2.tC, L2.tIfS, L2.tIf, L2.tCall, L2.tAsg, L2.gName, L2.tSl, L2.rSlS, L2.tPart, L2.tNoPart, L2.tBM, L2.tBM0, L2.tB, L2.tAndV, L2.tOrV, L2.tNotV, L2.tDrop, L2.tNext, L2.tChain, L2.tPar, L2.tPar3, Cm.tErr, Cm.tGT, L2.tTup, L2.tLst,
  List.getElem?_cons_zero, List.getElem?_cons_succ, Option.some.injEq, exists_eq_left', exists_eq_left, exists_eq', exists_eq, exists_and_left, exists_and_right, exists_const, List.cons.injEq, and_true, true_and, L2.V.str.injEq, L2.V.int.injEq, L2.V.bl.injEq, L2.V.ref.injEq, PySem.Str.mk.injEq, Tx.arr1, Tx.str_len, Tx.at_nat, Tx.cut_nat, Tx.find_one,
  and_assoc, Int.ofNat_inj, Nat.add_sub_cancel_left, Lx.take1_eq, decide_eq_true_eq, Bool.not_eq_true', decide_eq_false_iff_not, Int.ofNat_lt, Int.ofNat_le, Bool.false_eq_true, if_false, if_true, List.set_cons_zero, List.set_cons_succ, List.append_nil, List.nil_append, ↓reduceIte, Cm.nat_succ, Cm.nat_add, Cm.nat_two, List.toList_toArray, not_true, not_false_iff, Cm.toArr_inj, Cm.two_one, Cm.tyV_str, Cm.scal_ss, Cm.scal_ii, Cm.scal_bb, Cm.cb_K, reduceCtorEq, false_and, exists_false, or_false, false_or, List.map_cons, List.map_nil]
    refine ⟨by decide, fun q1 n1 => ⟨p, q1, m, _, rfl, hb.same (same_new n1), by omega, sqL upd_same, hb.np n1, by decide, by decide, fun x H1 bt1 hb1 hx => ?_⟩⟩
    have hx' : x ∈ ([0, 0, 0, 1, 2, 4, 9, 39] : List Nat).map (fun k : Nat => V.int (k : Int)) := hx
    obtain ⟨k, hk, rfl⟩ := List.mem_map.mp hx'
    have hk' : k ≤ 39 := (show ∀ k ∈ ([0, 0, 0, 1, 2, 4, 9, 39] : List Nat), k ≤ 39 by decide) k hk
    refine ⟨p, m + 1, kLETTERS, rfl, hb1, by omega, by decide, by decide, fun c H2 bt2 hb2 hc => ?_⟩
    have bt : But p H H2 := ((Cm.Same.but (same_new n1)).trans bt1).trans bt2
    refine ⟨_, rfl, _, rfl, by omega, by omega, ?_⟩
    refine for_it walk_range (NameInv p H m k)
      ⟨[c], none, rfl, bt, hb2.mono (by omega), by simp, rfl, hc, fun x hx => by simp at hx; rw [hx]; exact (letter_ne hc).2.2.2.2.2.2.2.1⟩ (fun _ _ _ _ _ => trivial) ?_ ?_
    · rintro i x σ H3 H4 hi ⟨n, v, rfl, bt3, hb3, g1, g2, g3, g4⟩ ⟨rfl, rfl⟩
      have hi' : i < k := hi
      simp only [L2.tSeq, L2.tRet, L2.tVar, L2.tAnd, L2.tOr, L2.tNot, L2.tTest, L2.tOp, L2.tUn, L2.rU, L2.tCB, L2.tCons, L2.tNil, L2.rIxS, L2.rI0, L2.rI, L2.rEq, L2.rNe, L2.tAug, L2.ipI, L2.tC, L2.tIfS, L2.tIf, L2.tCall, L2.tAsg, L2.gName, L2.tSl, L2.rSlS, L2.tPart, L2.tNoPart, L2.tBM, L2.tBM0, L2.tB, L2.tAndV, L2.tOrV, L2.tNotV, L2.tDrop, L2.tNext, L2.tChain, L2.tPar, L2.tPar3, Cm.tErr, Cm.tGT, L2.tTup, L2.tLst,
  List.getElem?_cons_zero, List.getElem?_cons_succ, Option.some.injEq, exists_eq_left', exists_eq_left, exists_eq', exists_eq, exists_and_left, exists_and_right, exists_const, List.cons.injEq, and_true, true_and, L2.V.str.injEq, L2.V.int.injEq, L2.V.bl.injEq, L2.V.ref.injEq, PySem.Str.mk.injEq, Tx.arr1, Tx.str_len, Tx.at_nat, Tx.cut_nat, Tx.find_one,
  and_assoc, Int.ofNat_inj, Nat.add_sub_cancel_left, Lx.take1_eq, decide_eq_true_eq, Bool.not_eq_true', decide_eq_false_iff_not, Int.ofNat_lt, Int.ofNat_le, Bool.false_eq_true, if_false, if_true, List.set_cons_zero, List.set_cons_succ, List.append_nil, List.nil_append, ↓reduceIte, Cm.nat_succ, Cm.nat_add, Cm.nat_two, List.toList_toArray, not_true, not_false_iff, Cm.toArr_inj, Cm.two_one, Cm.tyV_str, Cm.scal_ss, Cm.scal_ii, Cm.scal_bb, Cm.cb_K, reduceCtorEq, false_and, exists_false, or_false, false_or, List.map_cons, List.map_nil]
      refine ⟨by decide, p, m + 2 + i, kLETTERS ++ [48, 49, 50, 51, 52, 53, 54, 55, 56, 57], by rw [str_app], hb3, by omega, by decide, by decide, fun d H5 bt5 hb5 hd => ?_⟩
      refine ⟨_, rfl, by rw [Tx.str_len]; exact szl (by simp; omega), ?_⟩
      rw [str_app]
      refine ⟨n ++ [d], _, rfl, bt3.trans bt5, hb5.mono (by omega), by simp, by simp [g2], by rw [headD_app g1]; exact g3, fun x hx => ?_⟩
      rcases List.mem_append.mp hx with hx | hx
      · exact g4 x hx
      · simp at hx
        rw [hx]
        exact (show ∀ c ∈ kLETTERS ++ [48, 49, 50, 51, 52, 53, 54, 55, 56, 57], c ∈ kNAME_SIGNS by decide) d hd
    · rintro σ H3 ⟨n, v, rfl, bt3, hb3, g1, g2, g3, g4⟩
      have e : ((k : Int)).toNat = k := rfl
      rw [e] at hb3 g2
      exact ⟨_, rfl, kk n H3 bt3 (hb3.mono (by omega)) ⟨g1, by omega, g3, g4⟩⟩
theorem ok__law_text (M : Mn K mg) : Ok P w K mg base 3 "_law_text" ["_law_bag_here"] spText := by
  refine mk M.a__law_text sc__law_text (fun _ _ _ _ _ _ us hl => match us, hl with | [_], _ => rfl) (fun vs H Q E h => ?_) (fun f cdv A outer s H vs Q E hr h => ?_)
  · obtain ⟨p, m, rfl, _⟩ := h
    rfl
  · obtain ⟨p, m, rfl, hb, hm, kk⟩ := h
    refine ⟨_, (pss_cons (ps_asg (pe_strL [32, 33, 34, 35, 36, 38, 39, 40, 41, 42, 43, 44, 45, 46, 47, 48, 49, 50, 51, 52, 53, 54, 55, 56, 57, 58, 59, 60, 61, 62, 63, 64, 65, 66, 67, 68, 69, 70, 71, 72, 73, 74, 75, 76, 77, 78, 79, 80, 81, 82, 83, 84, 85, 86, 87, 88, 89, 90, 91, 92, 93, 94, 95, 96]) (pg_name (i := 1) sc__law_text.nd rfl (.inr rfl)))
      (pss_cons (ps_asg (pe_op op_add_str (pv 1) (pe_strL [97, 98, 99, 100, 101, 102, 103, 104, 105, 106, 107, 108, 109, 110, 111, 112, 113, 114, 115, 116, 117, 118, 119, 120, 121, 122, 123, 124, 125, 126, 10, 39])) (pg_name (i := 1) sc__law_text.nd rfl (.inr rfl)))
      (pss_one (ps_ret (pe_join (pe_strL []) (pe_lc (own := [("_law_turn", 2)]) (g := (gName 2)) (by rfl) sc__law_text.nd (pi_range1 (by rfl) M.g_range (pa_cons (pc (ok_pk M.mb) (hr.mono (by decide)) (by rfl) psb (pa_cons (pv 0) (pa_cons (pe_lst (pa_cons pe_int (pa_cons pe_int (pa_cons pe_int (pa_cons pe_int (pa_cons pe_int pa_nil)))))) pa_nil))) pa_nil)) (blkOk_by (own := [("_law_turn", 2)]) (N := ["_law_bag_here", "_law_signs", "_law_turn"]) (sc := defScope s__law_text) (by decide +kernel)) (fun _ _ _ _ _ => pg_name (i := 2) sc__law_text.nd rfl (Or.inl rfl)) (fun _ _ _ _ _ => pts_nil) (fun _ _ _ _ _ => (pc (ok_pks M.mb) (hr.mono (by decide)) (by rfl) passL (pa_cons (pv 0) (pa_cons (pv 1) pa_nil)))))))))), ?_⟩
    show tSeq _ _ _ [some (.ref p), none, none] H
    simp only [L2.tSeq, L2.tRet, L2.tVar, L2.tAnd, L2.tOr, L2.tNot, L2.tTest, L2.tOp, L2.tUn, L2.rU, L2.tCB, L2.tCons, L2.tNil, L2.rIxS, L2.rI0, L2.rI, L2.rEq, L2.rNe, L2.tAug, L2.ipI, L2.tC, L2.tIfS, L2.tIf, L2.tCall, L2.tAsg, L2.gName, L2.tSl, L2.rSlS, L2.tPart, L2.tNoPart, L2.tBM, L2.tBM0, L2.tB, L2.tAndV, L2.tOrV, L2.tNotV, L2.tDrop, L2.tNext, L2.tChain, L2.tPar, L2.tPar3, Cm.tErr, Cm.tGT, L2.tTup, L2.tLst,
  List.getElem?_cons_zero, List.getElem?_cons_succ, Option.some.injEq, exists_eq_left', exists_eq_left, exists_eq', exists_eq, exists_and_left, exists_and_right, exists_const, List.cons.injEq, and_true, true_and, L2.V.str.injEq, L2.V.int.injEq, L2.V.bl.injEq, L2.V.ref.injEq, PySem.Str.mk.injEq, Tx.arr1, Tx.str_len, Tx.at_nat, Tx.cut_nat, Tx.find_one,
  and_assoc, Int.ofNat_inj, Nat.add_sub_cancel_left, Lx.take1_eq, decide_eq_true_eq, Bool.not_eq_true', decide_eq_false_iff_not, Int.ofNat_lt, Int.ofNat_le, Bool.false_eq_true, if_false, if_true, List.set_cons_zero, List.set_cons_succ, List.append_nil, List.nil_append, ↓reduceIte, Cm.nat_succ, Cm.nat_add, Cm.nat_two, List.toList_toArray, not_true, not_false_iff, Cm.toArr_inj, Cm.two_one, Cm.tyV_str, Cm.scal_ss, Cm.scal_ii, Cm.scal_bb, Cm.cb_K, reduceCtorEq, false_and, exists_false, or_false, false_or, List.map_cons, List.map_nil]
    refine ⟨by decide, ⟨_, rfl⟩, ?_⟩
    rw [str_app]
    refine ⟨_, rfl, show 5 ≤ sizeLine by decide, fun q1 n1 => ⟨p, q1, m, _, rfl, hb.same (same_new n1), by omega, sqL upd_same, hb.np n1, by decide, by decide, fun x H1 bt1 hb1 hx => ?_⟩⟩
    have hx' : x ∈ ([0, 1, 2, 3, 8] : List Nat).map (fun k : Nat => V.int (k : Int)) := hx
    obtain ⟨k, hk, rfl⟩ := List.mem_map.mp hx'
    have hk' : k ≤ 8 := (show ∀ k ∈ ([0, 1, 2, 3, 8] : List Nat), k ≤ 8 by decide) k hk
    have bt : But p H H1 := (Cm.Same.but (same_new n1)).trans bt1
    refine ⟨_, rfl, by omega, by omega, fun D hD => lc_it walk_range (fun i H' => But p H H' ∧ Bag (m + 1 + i) H' p ∧ ∃ t : List Nat, t.length = i ∧ t.all okc = true ∧ H' D = some (.lst (t.map fun c => S [c])))
      ⟨bt.trans (Cm.Same.but (same_new hD)), (hb1.same (same_new hD)).mono (by omega), [], rfl, rfl, upd_same⟩ (fun _ _ _ _ => trivial) ?_ ?_⟩
    · rintro i x H2 H3 hi ⟨bt2, hb2, t, t1, t2, hD2⟩ ⟨rfl, rfl⟩
      have hi' : i < k := hi
      have hDp : D ≠ p := hb1.np hD
      have bnD : ∀ b o, b ≠ p → H b = some o → b ≠ D := fun b o n e => ne_of_none (bt b o n e) hD
      refine ⟨rfl, ?_⟩
      refine ⟨_, rfl, _, rfl, p, m + 1 + i, _, rfl, hb2, by omega, by decide, by decide, fun c H4 bt4 hb4 hc => ⟨_, bt4 _ _ hDp hD2, ?_, ?_, ?_, t ++ [c], by rw [List.length_append, t1]; rfl, ?_, ?_⟩⟩
      · rw [List.length_map, t1]
        exact Nat.lt_of_le_of_lt (show i ≤ 8 by omega) (by decide)
      · intro b o n e
        rw [upd_ne (bnD b o n e)]
        exact bt4 _ _ n (bt2 _ _ n e)
      · obtain ⟨A0, B0, C0, h0, h1, h2, h3, h4⟩ := hb4
        exact ⟨A0, B0, C0, by rw [upd_ne (Ne.symm hDp)]; exact h0, h1, h2, h3, by omega⟩
      · rw [List.all_append, t2]
        exact (show ∀ c ∈ signsT, [c].all okc = true by decide) c hc
      · rw [upd_same, List.map_append]
        rfl
    · rintro H2 ⟨bt2, hb2, t, t1, t2, hD2⟩
      have e : ((k : Int)).toNat = k := rfl
      rw [e] at hb2 t1
      refine ⟨_, rfl, D, rfl, t.map fun c => (⟨[c].toArray⟩ : Str), .inl (sqL (by rw [hD2, List.map_map]; rfl)), ?_, ?_⟩
      · have e1 : (List.map (fun x => x.length) (t.map fun c => (⟨[c].toArray⟩ : Str))).sum = t.length := by
          rw [List.map_map]
          have : ((fun x : Str => x.length) ∘ fun c => (⟨[c].toArray⟩ : Str)) = fun _ => 1 := by
            funext c
            rfl
          rw [this]
          clear this hD2 t1 t2
          induction t with
          | nil => rfl
          | cons c t ih =>
            rw [List.map_cons, List.sum_cons, ih, List.length_cons]
            omega
        rw [e1, List.length_map, t1]
        show k + k * 0 ≤ _
        omega
      · rw [join_chars]
        exact kk t H2 bt2 (hb2.mono (by omega)) t2 (by omega)
theorem ok__law_string (M : Mn K mg) : Ok P w K mg base 1 "_law_string" ["_law_text_here"] spString := by
  refine mkT M.a__law_string sc__law_string (by decide +kernel) (by decide) (fun _ _ _ _ _ _ us hl => match us, hl with | [_], _ => rfl) (fun vs H Q E h => ?_) (fun f cdv A outer s H vs Q E hr h => ?_)
  · obtain ⟨t, rfl, _⟩ := h
    rfl
  · obtain ⟨t, rfl, ht, kk⟩ := h
    refine ⟨_, (CwR.psst_one (CwR.pst_ret (CwR.pet_op op_add_str (CwR.pet_op op_add_str (CwR.PET.of (pe_strL [39])) (CwR.pet_replC (y := ⟨#[39]⟩) (z := ⟨#[39, 39]⟩) (pv 0) (by decide +kernel))) (CwR.PET.of (pe_strL [39]))))), ?_⟩
    show tRet _ _ [some (S t)] H
    simp only [L2.tSeq, L2.tRet, L2.tVar, L2.tAnd, L2.tOr, L2.tNot, L2.tTest, L2.tOp, L2.tUn, L2.rU, L2.tCB, L2.tCons, L2.tNil, L2.rIxS, L2.rI0, L2.rI, L2.rEq, L2.rNe, L2.tAug, L2.ipI, L2.tC, L2.tIfS, L2.tIf, L2.tCall, L2.tAsg, L2.gName, L2.tSl, L2.rSlS, L2.tPart, L2.tNoPart, L2.tBM, L2.tBM0, L2.tB, L2.tAndV, L2.tOrV, L2.tNotV, L2.tDrop, L2.tNext, L2.tChain, L2.tPar, L2.tPar3, Cm.tErr, Cm.tGT, L2.tTup, L2.tLst,
  List.getElem?_cons_zero, List.getElem?_cons_succ, Option.some.injEq, exists_eq_left', exists_eq_left, exists_eq', exists_eq, exists_and_left, exists_and_right, exists_const, List.cons.injEq, and_true, true_and, L2.V.str.injEq, L2.V.int.injEq, L2.V.bl.injEq, L2.V.ref.injEq, PySem.Str.mk.injEq, Tx.arr1, Tx.str_len, Tx.at_nat, Tx.cut_nat, Tx.find_one,
  and_assoc, Int.ofNat_inj, Nat.add_sub_cancel_left, Lx.take1_eq, decide_eq_true_eq, Bool.not_eq_true', decide_eq_false_iff_not, Int.ofNat_lt, Int.ofNat_le, Bool.false_eq_true, if_false, if_true, List.set_cons_zero, List.set_cons_succ, List.append_nil, List.nil_append, ↓reduceIte, Cm.nat_succ, Cm.nat_add, Cm.nat_two, List.toList_toArray, not_true, not_false_iff, Cm.toArr_inj, Cm.two_one, Cm.tyV_str, Cm.scal_ss, Cm.scal_ii, Cm.scal_bb, Cm.cb_K, reduceCtorEq, false_and, exists_false, or_false, false_or, List.map_cons, List.map_nil, CwR.tReplC]
    have hl := esc_len t
    have e := Tx.repl_list t [39] [39, 39] (by decide)
    rw [esc_repl] at e
    refine ⟨by show t.length + (t.length + 1) * 2 ≤ _; omega, ?_⟩
    rw [e]
    refine ⟨by rw [Tx.str_len]; exact szl (by simp; omega), ?_, ?_⟩
    · have := str_app [39] (esc t)
      rw [this, Tx.str_len]
      exact szl (by simp; omega)
    · have e1 := str_app [39] (esc t)
      rw [e1]
      have e2 := str_app ([39] ++ esc t) [39]
      rw [e2]
      exact kk
theorem ok__law_operator (M : Mn K mg) : Ok P w K mg base 3 "_law_operator" ["_law_bag_here"] spOper := by
  refine mk M.a__law_operator sc__law_operator (fun _ _ _ _ _ _ us hl => match us, hl with | [_], _ => rfl) (fun vs H Q E h => ?_) (fun f cdv A outer s H vs Q E hr h => ?_)
  · obtain ⟨p, m, rfl, _⟩ := h
    rfl
  · obtain ⟨p, m, rfl, hb, hm, kk⟩ := h
    refine ⟨_, (pss_one (ps_ret (pc (ok_pk M.mb) (hr.mono (by decide)) (by rfl) psb (pa_cons (pv 0) (pa_cons (pe_lst (pa_cons (pe_strL [43]) (pa_cons (pe_strL [45]) (pa_cons (pe_strL [42]) (pa_cons (pe_strL [47, 47]) (pa_cons (pe_strL [92, 92]) (pa_cons (pe_strL [60]) (pa_cons (pe_strL [62]) (pa_cons (pe_strL [60, 61]) (pa_cons (pe_strL [62, 61]) (pa_cons (pe_strL [61]) (pa_cons (pe_strL [61, 61]) (pa_cons (pe_strL [126, 61]) (pa_cons (pe_strL [126, 126]) (pa_cons (pe_strL [44]) pa_nil))))))))))))))) pa_nil))))), ?_⟩
    show tRet _ _ [some (.ref p)] H
    simp only [L2.tSeq, L2.tRet, L2.tVar, L2.tAnd, L2.tOr, L2.tNot, L2.tTest, L2.tOp, L2.tUn, L2.rU, L2.tCB, L2.tCons, L2.tNil, L2.rIxS, L2.rI0, L2.rI, L2.rEq, L2.rNe, L2.tAug, L2.ipI, L2.tC, L2.tIfS, L2.tIf, L2.tCall, L2.tAsg, L2.gName, L2.tSl, L2.rSlS, L2.tPart, L2.tNoPart, L2.tBM, L2.tBM0, L2.tB, L2.tAndV, L2.tOrV, L2.tNotV, L2.tDrop, L2.tNext, L2.tChain, L2.tPar, L2.tPar3, Cm.tErr, Cm.tGT, L2.tTup, L2.tLst,
  List.getElem?_cons_zero, List.getElem?_cons_succ, Option.some.injEq, exists_eq_left', exists_eq_left, exists_eq', exists_eq, exists_and_left, exists_and_right, exists_const, List.cons.injEq, and_true, true_and, L2.V.str.injEq, L2.V.int.injEq, L2.V.bl.injEq, L2.V.ref.injEq, PySem.Str.mk.injEq, Tx.arr1, Tx.str_len, Tx.at_nat, Tx.cut_nat, Tx.find_one,
  and_assoc, Int.ofNat_inj, Nat.add_sub_cancel_left, Lx.take1_eq, decide_eq_true_eq, Bool.not_eq_true', decide_eq_false_iff_not, Int.ofNat_lt, Int.ofNat_le, Bool.false_eq_true, if_false, if_true, List.set_cons_zero, List.set_cons_succ, List.append_nil, List.nil_append, ↓reduceIte, Cm.nat_succ, Cm.nat_add, Cm.nat_two, List.toList_toArray, not_true, not_false_iff, Cm.toArr_inj, Cm.two_one, Cm.tyV_str, Cm.scal_ss, Cm.scal_ii, Cm.scal_bb, Cm.cb_K, reduceCtorEq, false_and, exists_false, or_false, false_or, List.map_cons, List.map_nil]
    refine ⟨by decide, fun q1 n1 => ⟨p, q1, m, _, rfl, hb.same (same_new n1), by omega, sqL upd_same, hb.np n1, by decide, by decide, fun x H1 bt1 hb1 hx => ?_⟩⟩
    have hx' : x ∈ ([[43], [45], [42], [47, 47], [92, 92], [60], [62], [60, 61], [62, 61], [61], [61, 61], [126, 61], [126, 126], [44]] : List (List Nat)).map S := hx
    obtain ⟨o, ho, rfl⟩ := List.mem_map.mp hx'
    exact kk o H1 ((Cm.Same.but (same_new n1)).trans bt1) hb1 ((show ∀ o ∈ ([[43], [45], [42], [47, 47], [92, 92], [60], [62], [60, 61], [62, 61], [61], [61, 61], [126, 61], [126, 126], [44]] : List (List Nat)), o ∈ kOPERATORS_FIRST by decide) o ho)
def DigInv (p : Addr) (H : Hp) (m : Int) (k : Nat) (neg : Bool) (i : Nat) (σ : L2.St) (H' : Hp) : Prop := ∃ n v, σ = [some (.ref p), some (.bl neg), some (.int (k : Int)), some (S n), v] ∧ But p H H' ∧ Bag (m + 2 + i) H' p ∧ n.length = i + 1 ∧ ∀ c ∈ n, c ∈ kDIGITS
theorem dig_text {n : List Nat} (h : n ≠ []) (hl : n.length ≤ 60) (g : ∀ c ∈ n, c ∈ kDIGITS) : intText? ⟨n.toArray⟩ = some ((NumText.digitsVal n : Nat) : Int) := by
  have h0 : 0 < n.length := List.length_pos_iff.mpr h
  have hd := digit_ne (headD_mem h g)
  have hr := runLen_app (sg := kDIGITS) (r := []) (.inl rfl) g
  rw [List.append_nil] at hr
  have hi : intLen n false = n.length := by
    show (if 1 ≤ runLen kDIGITS n ∧ runLen kDIGITS n ≤ 60 then 0 + runLen kDIGITS n else 0) = _
    rw [hr, if_pos ⟨h0, hl⟩, Nat.zero_add]
  have := intText_ok (r := n) (neg := false) (by omega)
  rw [hi, List.take_length] at this
  rw [this]
  unfold intOf
  rw [if_neg hd.2.2.2.1]
theorem ok__law_integer (M : Mn K mg) : Ok P w K mg base 3 "_law_integer" ["_law_bag_here", "_law_negative_here"] spInteger := by
  refine mk M.a__law_integer sc__law_integer (fun _ _ _ _ _ _ us hl => match us, hl with | [_, _], _ => rfl) (fun vs H Q E h => ?_) (fun f cdv A outer s H vs Q E hr h => ?_)
  · obtain ⟨p, m, neg, rfl, _⟩ := h
    rfl
  · obtain ⟨p, m, neg, rfl, hb, hm, kk⟩ := h
    refine ⟨_, (pss_cons (ps_asg (pc (ok_pk M.mb) (hr.mono (by decide)) (by rfl) psb (pa_cons (pv 0) (pa_cons (pe_lst (pa_cons pe_int (pa_cons pe_int (pa_cons pe_int (pa_cons pe_int (pa_cons pe_int (pa_cons pe_int (pa_cons pe_int (pa_cons pe_int pa_nil))))))))) pa_nil))) (pg_name (i := 2) sc__law_integer.nd rfl (.inl rfl)))
      (pss_cons (ps_asg (pc (ok_pks M.mb) (hr.mono (by decide)) (by rfl) psb (pa_cons (pv 0) (pa_cons (pe_strL [48, 49, 50, 51, 52, 53, 54, 55, 56, 57]) pa_nil))) (pg_name (i := 3) sc__law_integer.nd rfl (.inl rfl)))
      (pss_cons (ps_for (passes_of rfl) rfl (pi_range1 (by rfl) M.g_range (pa_cons (pv 2) pa_nil)) (pg_name (i := 4) sc__law_integer.nd rfl (.inl rfl))
      (pss_one (ps_asg (pe_op op_add_str (pv 3) (pc (ok_pks M.mb) (hr.mono (by decide)) (by rfl) psb (pa_cons (pv 0) (pa_cons (pe_strL [48, 49, 50, 51, 52, 53, 54, 55, 56, 57]) pa_nil)))) (pg_name (i := 3) sc__law_integer.nd rfl (.inl rfl)))))
      (pss_cons (ps_if (PW.pt (pw_and (pt_val (pv 1)) (pw_and1 (pt_cmpR op_eq (pc (ok_tk M.mb) (hr.mono (by decide)) (by rfl) psb (pa_cons (pv 0) (pa_cons pe_int pa_nil))) pe_int (nomark _))))) (pss_one (ps_ret (pe_tup (pa_cons (pe_strL [105, 110, 116]) (pa_cons (pe_un un_neg (pe_callTy call_int_str (by rfl) M.g_int (by decide +kernel) (pa_cons (pv 3) pa_nil))) (pa_cons (pe_op op_add_str (pe_strL [45]) (pv 3)) pa_nil)))))) pss_nil)
      (pss_one (ps_ret (pe_tup (pa_cons (pe_strL [105, 110, 116]) (pa_cons (pe_callTy call_int_str (by rfl) M.g_int (by decide +kernel) (pa_cons (pv 3) pa_nil)) (pa_cons (pv 3) pa_nil)))))))))), ?_⟩
    show tSeq _ _ _ [some (.ref p), some (.bl neg), none, none, none] H
    simp only [L2.tSeq, L2.tRet, L2.tVar, L2.tAnd, L2.tOr, L2.tNot, L2.tTest, L2.tOp, L2.tUn, L2.rU, L2.tCB, L2.tCons, L2.tNil, L2.rIxS, L2.rI0, L2.rI, L2.rEq, L2.rNe, L2.tAug, L2.ipI, L2.tC, L2.tIfS, L2.tIf, L2.tCall, L2.tAsg, L2.gName, L2.tSl, L2.rSlS, L2.tPart, L2.tNoPart, L2.tBM, L2.tBM0, L2.tB, L2.tAndV, L2.tOrV, L2.tNotV, L2.tDrop, L2.tNext, L2.tChain, L2.tPar, L2.tPar3, Cm.tErr, Cm.tGT, L2.tTup, L2.tLst,
  List.getElem?_cons_zero, List.getElem?_cons_succ, Option.some.injEq, exists_eq_left', exists_eq_left, exists_eq', exists_eq, exists_and_left, exists_and_right, exists_const, List.cons.injEq, and_true, true_and, L2.V.str.injEq, L2.V.int.injEq, L2.V.bl.injEq, L2.V.ref.injEq, PySem.Str.mk.injEq, Tx.arr1, Tx.str_len, Tx.at_nat, Tx.cut_nat, Tx.find_one,
  and_assoc, Int.ofNat_inj, Nat.add_sub_cancel_left, Lx.take1_eq, decide_eq_true_eq, Bool.not_eq_true', decide_eq_false_iff_not, Int.ofNat_lt, Int.ofNat_le, Bool.false_eq_true, if_false, if_true, List.set_cons_zero, List.set_cons_succ, List.append_nil, List.nil_append, ↓reduceIte, Cm.nat_succ, Cm.nat_add, Cm.nat_two, List.toList_toArray, not_true, not_false_iff, Cm.toArr_inj, Cm.two_one, Cm.tyV_str, Cm.scal_ss, Cm.scal_ii, Cm.scal_bb, Cm.cb_K, reduceCtorEq, false_and, exists_false, or_false, false_or, List.map_cons, List.map_nil]
    refine ⟨by decide, fun q1 n1 => ⟨p, q1, m, _, rfl, hb.same (same_new n1), by omega, sqL upd_same, hb.np n1, by decide, by decide, fun x H1 bt1 hb1 hx => ?_⟩⟩
    have hx' : x ∈ ([0, 0, 1, 2, 5, 20, 58, 59] : List Nat).map (fun k : Nat => V.int (k : Int)) := hx
    obtain ⟨k, hk, rfl⟩ := List.mem_map.mp hx'
    have hk' : k ≤ 59 := (show ∀ k ∈ ([0, 0, 1, 2, 5, 20, 58, 59] : List Nat), k ≤ 59 by decide) k hk
    refine ⟨p, m + 1, kDIGITS, rfl, hb1, by omega, by decide, by decide, fun c H2 bt2 hb2 hc => ?_⟩
    have bt : But p H H2 := ((Cm.Same.but (same_new n1)).trans bt1).trans bt2
    refine ⟨_, rfl, _, rfl, by omega, by omega, ?_⟩
    refine for_it walk_range (DigInv p H m k neg) ⟨[c], none, rfl, bt, hb2.mono (by omega), rfl, fun x hx => by simp at hx; rw [hx]; exact hc⟩ (fun _ _ _ _ _ => trivial) ?_ ?_
    · rintro i x σ H3 H4 hi ⟨n, v, rfl, bt3, hb3, g2, g4⟩ ⟨rfl, rfl⟩
      have hi' : i < k := hi
      simp only [L2.tSeq, L2.tRet, L2.tVar, L2.tAnd, L2.tOr, L2.tNot, L2.tTest, L2.tOp, L2.tUn, L2.rU, L2.tCB, L2.tCons, L2.tNil, L2.rIxS, L2.rI0, L2.rI, L2.rEq, L2.rNe, L2.tAug, L2.ipI, L2.tC, L2.tIfS, L2.tIf, L2.tCall, L2.tAsg, L2.gName, L2.tSl, L2.rSlS, L2.tPart, L2.tNoPart, L2.tBM, L2.tBM0, L2.tB, L2.tAndV, L2.tOrV, L2.tNotV, L2.tDrop, L2.tNext, L2.tChain, L2.tPar, L2.tPar3, Cm.tErr, Cm.tGT, L2.tTup, L2.tLst,
  List.getElem?_cons_zero, List.getElem?_cons_succ, Option.some.injEq, exists_eq_left', exists_eq_left, exists_eq', exists_eq, exists_and_left, exists_and_right, exists_const, List.cons.injEq, and_true, true_and, L2.V.str.injEq, L2.V.int.injEq, L2.V.bl.injEq, L2.V.ref.injEq, PySem.Str.mk.injEq, Tx.arr1, Tx.str_len, Tx.at_nat, Tx.cut_nat, Tx.find_one,
  and_assoc, Int.ofNat_inj, Nat.add_sub_cancel_left, Lx.take1_eq, decide_eq_true_eq, Bool.not_eq_true', decide_eq_false_iff_not, Int.ofNat_lt, Int.ofNat_le, Bool.false_eq_true, if_false, if_true, List.set_cons_zero, List.set_cons_succ, List.append_nil, List.nil_append, ↓reduceIte, Cm.nat_succ, Cm.nat_add, Cm.nat_two, List.toList_toArray, not_true, not_false_iff, Cm.toArr_inj, Cm.two_one, Cm.tyV_str, Cm.scal_ss, Cm.scal_ii, Cm.scal_bb, Cm.cb_K, reduceCtorEq, false_and, exists_false, or_false, false_or, List.map_cons, List.map_nil]
      refine ⟨p, m + 2 + i, kDIGITS, rfl, hb3, by omega, by decide, by decide, fun d H5 bt5 hb5 hd => ?_⟩
      refine ⟨_, rfl, by rw [Tx.str_len]; exact szl (by simp; omega), ?_⟩
      rw [str_app]
      refine ⟨n ++ [d], _, rfl, bt3.trans bt5, hb5.mono (by omega), by simp [g2], fun x hx => ?_⟩
      rcases List.mem_append.mp hx with hx | hx
      · exact g4 x hx
      · simp at hx
        rw [hx]
        exact hd
    · rintro σ H3 ⟨n, v, rfl, bt3, hb3, g2, g4⟩
      have e : ((k : Int)).toNat = k := rfl
      rw [e] at hb3 g2
      have hne : n ≠ [] := fun z => by rw [z] at g2; simp at g2
      have hwf : ∀ b, (Wd.int b n).Wf := fun b => ⟨hne, by omega, g4⟩
      have hit : intText? ⟨n.toArray⟩ = some ((NumText.digitsVal n : Nat) : Int) := dig_text hne (by omega) g4
      have hz : n.length ≤ 60 := by omega
      have bD : ∀ {G : Hp} {a : Addr} {o : HO}, But p H G → G a = none → But p H (upd G a o) := fun b na => b.trans (Cm.Same.but (same_new na))
      simp only [L2.tSeq, L2.tRet, L2.tVar, L2.tAnd, L2.tOr, L2.tNot, L2.tTest, L2.tOp, L2.tUn, L2.rU, L2.tCB, L2.tCons, L2.tNil, L2.rIxS, L2.rI0, L2.rI, L2.rEq, L2.rNe, L2.tAug, L2.ipI, L2.tC, L2.tIfS, L2.tIf, L2.tCall, L2.tAsg, L2.gName, L2.tSl, L2.rSlS, L2.tPart, L2.tNoPart, L2.tBM, L2.tBM0, L2.tB, L2.tAndV, L2.tOrV, L2.tNotV, L2.tDrop, L2.tNext, L2.tChain, L2.tPar, L2.tPar3, Cm.tErr, Cm.tGT, L2.tTup, L2.tLst,
  List.getElem?_cons_zero, List.getElem?_cons_succ, Option.some.injEq, exists_eq_left', exists_eq_left, exists_eq', exists_eq, exists_and_left, exists_and_right, exists_const, List.cons.injEq, and_true, true_and, L2.V.str.injEq, L2.V.int.injEq, L2.V.bl.injEq, L2.V.ref.injEq, PySem.Str.mk.injEq, Tx.arr1, Tx.str_len, Tx.at_nat, Tx.cut_nat, Tx.find_one,
  and_assoc, Int.ofNat_inj, Nat.add_sub_cancel_left, Lx.take1_eq, decide_eq_true_eq, Bool.not_eq_true', decide_eq_false_iff_not, Int.ofNat_lt, Int.ofNat_le, Bool.false_eq_true, if_false, if_true, List.set_cons_zero, List.set_cons_succ, List.append_nil, List.nil_append, ↓reduceIte, Cm.nat_succ, Cm.nat_add, Cm.nat_two, List.toList_toArray, not_true, not_false_iff, Cm.toArr_inj, Cm.two_one, Cm.tyV_str, Cm.scal_ss, Cm.scal_ii, Cm.scal_bb, Cm.cb_K, reduceCtorEq, false_and, exists_false, or_false, false_or, List.map_cons, List.map_nil]
      have fin : ∀ H4, But p H3 H4 → Bag (m + 70) H4 p → ∃ x, intText? ⟨n.toArray⟩ = some x ∧ n.length ≤ 640 ∧ [S [105, 110, 116], V.int x, S n].length ≤ sizeLine ∧ ∀ p_1, H4 p_1 = none → Q (V.ref p_1) (upd H4 p_1 (HO.tup [S [105, 110, 116], V.int x, S n])) := fun H4 b4 hb4 =>
        ⟨_, hit, by omega, show 3 ≤ sizeLine by decide, fun a na => kk a (.int false n) _ (bD (bt3.trans b4) na) (hb4.same (same_new na)) (hwf false) True.intro upd_same⟩
      cases neg with
      | false =>
        rw [if_neg (by decide)]
        exact fin H3 But.refl (hb3.mono (by omega))
      | true =>
        rw [if_pos rfl]
        refine ⟨p, _, 2, rfl, hb3, by omega, by decide, by decide, fun j H4 b4 hb4 hj => ⟨rfl, ?_⟩⟩
        split
        · rw [str_app]
          exact ⟨_, hit, by omega, szl (by simp; omega), show 3 ≤ sizeLine by decide, fun a na => kk a (.int true n) _ (bD (bt3.trans b4) na) ((hb4.same (same_new na)).mono (by omega)) (hwf true) rfl upd_same⟩
        · exact fin H4 b4 (hb4.mono (by omega))
end
end W
namespace W
open PySem PySem.Spec PyProof.Rows L2 Cm Lx
abbrev s__law_symbol : Stmt := topS 44
theorem sc__law_symbol : FnScope ["_law_bag_here", "_law_way", "_law_text_here", "_law_turn"] ["_law_bag_here"] (defScope s__law_symbol) := ⟨rfl, rfl, rfl, by decide +kernel, rfl, by decide +kernel, by decide +kernel⟩
abbrev s__law_one : Stmt := topS 45
theorem sc__law_one : FnScope ["_law_bag_here", "_law_negative_here", "_law_way", "_law_text_here"] ["_law_bag_here", "_law_negative_here"] (defScope s__law_one) := ⟨rfl, rfl, rfl, by decide +kernel, rfl, by decide +kernel, by decide +kernel⟩
structure Mo (K : PySem.W.Frag) (mg : Str → Option Value) : Prop where
  mb : Mb K mg
  mn : Mn K mg
  a__law_symbol : At K mg "_law_symbol" s__law_symbol
  a__law_one : At K mg "_law_one" s__law_one
  g_range : mg "range" = none
def spSymbol : Sp := fun vs H Q _ => ∃ (p : Addr) (m : Int), vs = [.ref p] ∧ Bag m H p ∧ m + 250 < 10 ^ 9 ∧ ∀ a w H', But p H H' → Bag (m + 250) H' p → w.Wf → (∀ neg, w.May neg) → WdAt H' a w → Q (.ref a) H'
def spOne : Sp := fun vs H Q _ => ∃ (p : Addr) (m : Int) (neg : Bool), vs = [.ref p, .bl neg] ∧ Bag m H p ∧ m + 300 < 10 ^ 9 ∧ ∀ a w H', But p H H' → Bag (m + 300) H' p → w.Wf → w.May neg → WdAt H' a w → Q (.ref a) H'
section
variable {P : Program} {w : World} {K : PySem.W.Frag} {mg : Str → Option Value} {base : Heap} {CB : Addr}
theorem ok__law_symbol (M : Mo K mg) : Ok P w K mg base 4 "_law_symbol" ["_law_bag_here"] spSymbol := by
  refine mk M.a__law_symbol sc__law_symbol (fun _ _ _ _ _ _ us hl => match us, hl with | [_], _ => rfl) (fun vs H Q E h => ?_) (fun f cdv A outer s H vs Q E hr h => ?_)
  · obtain ⟨p, m, rfl, _⟩ := h
    rfl
  · obtain ⟨p, m, rfl, hb, hm, kk⟩ := h
    refine ⟨_, (pss_cons (ps_asg (pc (ok_tk M.mb) (hr.mono (by decide)) (by rfl) psb (pa_cons (pv 0) (pa_cons pe_int pa_nil))) (pg_name (i := 1) sc__law_symbol.nd rfl (.inl rfl)))
      (pss_cons (ps_if (pt_cmpR op_eq (pv 1) pe_int (nomark _)) (pss_cons (ps_asg (pc (ok__law_text M.mn) (hr.mono (by decide)) (by rfl) psb (pa_cons (pv 0) pa_nil)) (pg_name (i := 2) sc__law_symbol.nd rfl (.inl rfl)))
      (pss_one (ps_ret (pe_tup (pa_cons (pe_strL [115, 121, 109]) (pa_cons (pv 2) (pa_cons (pe_op op_add_str (pe_strL [35]) (pc (ok__law_string M.mn) (hr.mono (by decide)) (by rfl) psb (pa_cons (pv 2) pa_nil))) pa_nil))))))) pss_nil)
      (pss_cons (ps_asg (pc (ok__law_name M.mn) (hr.mono (by decide)) (by rfl) psb (pa_cons (pv 0) pa_nil)) (pg_name (i := 2) sc__law_symbol.nd rfl (.inl rfl)))
      (pss_cons (ps_if (pt_cmpR op_eq (pv 1) pe_int (nomark _)) (pss_one (ps_asg (pc (ok__law_operator M.mn) (hr.mono (by decide)) (by rfl) psb (pa_cons (pv 0) pa_nil)) (pg_name (i := 2) sc__law_symbol.nd rfl (.inl rfl)))) pss_nil)
      (pss_cons (ps_if (pt_cmpR op_eq (pv 1) pe_int (nomark _)) (pss_one (ps_asg (pe_join (pe_strL []) (pe_lc (own := [("_law_turn", 3)]) (g := (gName 3)) (by rfl) sc__law_symbol.nd (pi_range1 (by rfl) M.g_range (pa_cons (pe_op op_add pe_int (pc (ok_tk M.mb) (hr.mono (by decide)) (by rfl) psb (pa_cons (pv 0) (pa_cons pe_int pa_nil)))) pa_nil)) (blkOk_by (own := [("_law_turn", 3)]) (N := ["_law_bag_here", "_law_way", "_law_text_here", "_law_turn"]) (sc := defScope s__law_symbol) (by decide +kernel)) (fun _ _ _ _ _ => pg_name (i := 3) sc__law_symbol.nd rfl (Or.inl rfl)) (fun _ _ _ _ _ => pts_nil) (fun _ _ _ _ _ => (pe_op op_add_str (pc (ok__law_name M.mn) (hr.mono (by decide)) (by rfl) passL (pa_cons (pv 0) pa_nil)) (pe_strL [58]))))) (pg_name (i := 2) sc__law_symbol.nd rfl (.inl rfl)))) pss_nil)
      (pss_one (ps_ret (pe_tup (pa_cons (pe_strL [115, 121, 109]) (pa_cons (pv 2) (pa_cons (pe_op op_add_str (pe_strL [35]) (pv 2)) pa_nil))))))))))), ?_⟩
    show tSeq _ _ _ [some (.ref p), none, none, none] H
    simp only [L2.tSeq, L2.tRet, L2.tVar, L2.tAnd, L2.tOr, L2.tNot, L2.tTest, L2.tOp, L2.tUn, L2.rU, L2.tCB, L2.tCons, L2.tNil, L2.rIxS, L2.rI0, L2.rI, L2.rEq, L2.rNe, L2.tAug, L2.ipI, L2.tC, L2.tIfS, L2.tIf, L2.tCall, L2.tAsg, L2.gName, L2.tSl, L2.rSlS, L2.tPart, L2.tNoPart, L2.tBM, L2.tBM0, L2.tB, L2.tAndV, L2.tOrV, L2.tNotV, L2.tDrop, L2.tNext, L2.tChain, L2.tPar, L2.tPar3, Cm.tErr, Cm.tGT, L2.tTup, L2.tLst,
  List.getElem?_cons_zero, List.getElem?_cons_succ, Option.some.injEq, exists_eq_left', exists_eq_left, exists_eq', exists_eq, exists_and_left, exists_and_right, exists_const, List.cons.injEq, and_true, true_and, L2.V.str.injEq, L2.V.int.injEq, L2.V.bl.injEq, L2.V.ref.injEq, PySem.Str.mk.injEq, Tx.arr1, Tx.str_len, Tx.at_nat, Tx.cut_nat, Tx.find_one,
  and_assoc, Int.ofNat_inj, Nat.add_sub_cancel_left, Lx.take1_eq, decide_eq_true_eq, Bool.not_eq_true', decide_eq_false_iff_not, Int.ofNat_lt, Int.ofNat_le, Bool.false_eq_true, if_false, if_true, List.set_cons_zero, List.set_cons_succ, List.append_nil, List.nil_append, ↓reduceIte, Cm.nat_succ, Cm.nat_add, Cm.nat_two, List.toList_toArray, not_true, not_false_iff, Cm.toArr_inj, Cm.two_one, Cm.tyV_str, Cm.scal_ss, Cm.scal_ii, Cm.scal_bb, Cm.cb_K, reduceCtorEq, false_and, exists_false, or_false, false_or, List.map_cons, List.map_nil]
    refine ⟨p, m, 4, rfl, hb, by omega, by decide, by decide, fun j H1 b1 hb1 hj => ⟨rfl, ?_⟩⟩
    have fin : ∀ (n : List Nat) (w : Wd) (H2 : Hp), But p H H2 → Bag (m + 250) H2 p → w.Wf → (∀ neg, w.May neg) → w.kind = kSym → w.val = S n → w.text = 35 :: n → n.length ≤ 1000 →
        ∃ x_1, S n = V.str x_1 ∧ [35].length + x_1.length ≤ sizeLine ∧ [S [115, 121, 109], S n, V.str (⟨#[35]⟩ ++ x_1)].length ≤ sizeLine ∧ ∀ a, H2 a = none → Q (V.ref a) (upd H2 a (HO.tup [S [115, 121, 109], S n, V.str (⟨#[35]⟩ ++ x_1)])) := fun n w H2 c1 c2 c3 c4 c5 c6 c7 c8 => by
      refine ⟨_, rfl, by rw [Tx.str_len]; exact szl (by simp; omega), show 3 ≤ sizeLine by decide, fun a na => ?_⟩
      refine kk a w _ (c1.trans (Cm.Same.but (same_new na))) (c2.same (same_new na)) c3 c4 ?_
      have e := str_app [35] n
      rw [e]
      show upd H2 a _ a = some (.tup [S w.kind, w.val, S w.text])
      rw [upd_same, c5, c6, c7]
      rfl
    have hj4 : j = 0 ∨ j = 1 ∨ j = 2 ∨ j = 3 := by omega
    rcases hj4 with rfl | rfl | rfl | rfl
    · rw [if_pos (by decide)]
      refine ⟨p, _, rfl, hb1, by omega, fun t H2 b2 hb2 t1 t2 => ?_⟩
      have hl := esc_len t
      refine ⟨t, rfl, by omega, ?_⟩
      have e := str_app [35] (39 :: (esc t ++ [39]))
      refine ⟨_, rfl, by rw [Tx.str_len]; exact szl (by simp; omega), show 3 ≤ sizeLine by decide, fun a na => ?_⟩
      rw [e]
      exact kk a (.symS t) _ ((b1.trans b2).trans (Cm.Same.but (same_new na))) ((hb2.same (same_new na)).mono (by omega)) ⟨t1, t2⟩ (fun _ => True.intro) upd_same
    · rw [if_neg (by decide)]
      refine ⟨p, _, rfl, hb1, by omega, fun n H2 b2 hb2 hn => ⟨rfl, ?_⟩⟩
      rw [if_pos (by decide)]
      refine ⟨p, _, rfl, hb2, by omega, fun o H3 b3 hb3 ho => ⟨rfl, ?_⟩⟩
      rw [if_neg (by decide)]
      have h1000 : o.length ≤ 1000 := (show ∀ o ∈ kOPERATORS_FIRST, o.length ≤ 1000 by decide) o ho
      exact fin o (.symO o) H3 ((b1.trans b2).trans b3) (hb3.mono (by omega)) ho (fun _ => True.intro) rfl rfl rfl h1000
    · rw [if_neg (by decide)]
      refine ⟨p, _, rfl, hb1, by omega, fun n H2 b2 hb2 hn => ⟨rfl, ?_⟩⟩
      rw [if_neg (by decide)]
      refine ⟨rfl, ?_⟩
      rw [if_pos (by decide)]
      refine ⟨⟨_, rfl⟩, ?_⟩
      refine ⟨_, rfl, p, _, 3, rfl, hb2, by omega, by decide, by decide, fun k H3 b3 hb3 hk => ?_⟩
      have bt : But p H H3 := (b1.trans b2).trans b3
      refine ⟨_, _, rfl, rfl, _, rfl, by omega, by omega, fun D hD => lc_it walk_range (fun i H' => But p H H' ∧ Bag (m + 60 + 50 * i) H' p ∧ ∃ ns : List (List Nat), ns.length = i ∧ (∀ n ∈ ns, IsName n) ∧ H' D = some (.lst (ns.map fun n => S (n ++ [58]))))
        ⟨bt.trans (Cm.Same.but (same_new hD)), (hb3.same (same_new hD)).mono (by omega), [], rfl, by simp, upd_same⟩ (fun _ _ _ _ => trivial) ?_ ?_⟩
      · rintro i x H4 H5 hi ⟨bt2, hb4, ns, t1, t2, hD2⟩ ⟨rfl, rfl⟩
        have hi' : i < 1 + k := by
          have : i < ((1 : Int) + (k : Int)).toNat := hi
          omega
        have hDp : D ≠ p := hb3.np hD
        have bnD : ∀ b o, b ≠ p → H b = some o → b ≠ D := fun b o n e => ne_of_none (bt b o n e) hD
        refine ⟨rfl, ?_⟩
        refine ⟨_, rfl, p, _, rfl, hb4, by omega, fun n' H6 b6 hb6 hn' => ?_⟩
        have hl := hn'.len
        refine ⟨_, rfl, _, rfl, by rw [Tx.str_len, Tx.str_len]; exact szl (by simp; omega), _, b6 _ _ hDp hD2, ?_, ?_, ?_, ns ++ [n'], by rw [List.length_append, t1]; rfl, ?_, ?_⟩
        · rw [List.length_map, t1]
          exact Nat.lt_of_le_of_lt (show i ≤ 8 by omega) (by decide)
        · intro b o n e
          rw [upd_ne (bnD b o n e)]
          exact b6 _ _ n (bt2 _ _ n e)
        · obtain ⟨A0, B0, C0, h0, h1, h2, h3, h4⟩ := hb6
          exact ⟨A0, B0, C0, by rw [upd_ne (Ne.symm hDp)]; exact h0, h1, h2, h3, by omega⟩
        · intro z hz
          rcases List.mem_append.mp hz with hz | hz
          · exact t2 z hz
          · simp at hz
            rw [hz]
            exact hn'
        · rw [upd_same, List.map_append, str_app]
          rfl
      · rintro H4 ⟨bt2, hb4, ns, t1, t2, hD2⟩
        have e : ((1 : Int) + (k : Int)).toNat = 1 + k := by omega
        rw [e] at hb4 t1
        have hns : ns ≠ [] := fun z => by rw [z, List.length_nil] at t1; omega
        have hkl := kwsT_len t2
        refine ⟨_, rfl, D, rfl, ns.map fun n => (⟨(n ++ [58]).toArray⟩ : Str), .inl (sqL (by rw [hD2, List.map_map]; rfl)), ?_, ?_⟩
        · have e1 : (List.map (fun x => x.length) (ns.map fun n => (⟨(n ++ [58]).toArray⟩ : Str))).sum ≤ 41 * ns.length := by
            clear t1 hD2 hkl hns
            induction ns with
            | nil => exact Nat.le_refl _
            | cons n ns ih =>
              have := (t2 n List.mem_cons_self).len
              have ih' := ih fun m hm => t2 m (List.mem_cons_of_mem _ hm)
              rw [List.map_cons, List.map_cons, List.sum_cons, List.length_cons, Tx.str_len, List.length_append]
              simp only [List.length_cons, List.length_nil]
              omega
          rw [List.length_map]
          show _ + ns.length * 0 ≤ _
          omega
        · have ej : Txt.join ⟨([] : List Nat).toArray⟩ (ns.map fun n => (⟨(n ++ [58]).toArray⟩ : Str)) = ⟨(kwsT ns).toArray⟩ := by
            have := join_nil (ns.map (· ++ [58]))
            rw [List.map_map] at this
            exact this
          rw [ej]
          exact fin (kwsT ns) (.symK ns) H4 bt2 (hb4.mono (by omega)) ⟨⟨hns, t2⟩, by omega⟩ (fun _ => True.intro) rfl rfl rfl (by omega)
    · rw [if_neg (by decide)]
      refine ⟨p, _, rfl, hb1, by omega, fun n H2 b2 hb2 hn => ⟨rfl, ?_⟩⟩
      rw [if_neg (by decide)]
      refine ⟨rfl, ?_⟩
      rw [if_neg (by decide)]
      exact fin n (.symN n) H2 (b1.trans b2) (hb2.mono (by omega)) hn (fun _ => True.intro) rfl rfl rfl (Nat.le_trans hn.len (by decide))
theorem ok__law_one (M : Mo K mg) : Ok P w K mg base 5 "_law_one" ["_law_bag_here", "_law_negative_here"] spOne := by
  refine mk M.a__law_one sc__law_one (fun _ _ _ _ _ _ us hl => match us, hl with | [_, _], _ => rfl) (fun vs H Q E h => ?_) (fun f cdv A outer s H vs Q E hr h => ?_)
  · obtain ⟨p, m, neg, rfl, _⟩ := h
    rfl
  · obtain ⟨p, m, neg, rfl, hb, hm, kk⟩ := h
    refine ⟨_, (pss_cons (ps_asg (pc (ok_tk M.mb) (hr.mono (by decide)) (by rfl) psb (pa_cons (pv 0) (pa_cons pe_int pa_nil))) (pg_name (i := 2) sc__law_one.nd rfl (.inl rfl)))
      (pss_cons (ps_if (pt_cmpR op_eq (pv 2) pe_int (nomark _)) (pss_one (ps_ret (pc (ok__law_symbol M) (hr.mono (by decide)) (by rfl) psb (pa_cons (pv 0) pa_nil)))) pss_nil)
      (pss_cons (ps_if (pt_cmpR op_eq (pv 2) pe_int (nomark _)) (pss_cons (ps_asg (pc (ok__law_text M.mn) (hr.mono (by decide)) (by rfl) psb (pa_cons (pv 0) pa_nil)) (pg_name (i := 3) sc__law_one.nd rfl (.inl rfl)))
      (pss_one (ps_ret (pe_tup (pa_cons (pe_strL [115, 116, 114]) (pa_cons (pv 3) (pa_cons (pc (ok__law_string M.mn) (hr.mono (by decide)) (by rfl) psb (pa_cons (pv 3) pa_nil)) pa_nil))))))) pss_nil)
      (pss_cons (ps_if (pt_cmpR op_eq (pv 2) pe_int (nomark _)) (pss_one (ps_ret (pc (ok__law_integer M.mn) (hr.mono (by decide)) (by rfl) psb (pa_cons (pv 0) (pa_cons (pv 1) pa_nil))))) pss_nil)
      (pss_cons (ps_if (pt_cmpR op_eq (pv 2) pe_int (nomark _)) (pss_cons (ps_asg (pc (ok__law_operator M.mn) (hr.mono (by decide)) (by rfl) psb (pa_cons (pv 0) pa_nil)) (pg_name (i := 3) sc__law_one.nd rfl (.inl rfl)))
      (pss_one (ps_ret (pe_tup (pa_cons (pe_strL [111, 112]) (pa_cons (pv 3) (pa_cons (pv 3) pa_nil))))))) pss_nil)
      (pss_cons (ps_if (pt_cmpR op_lt (pv 2) pe_int (nomark _)) (pss_cons (ps_asg (pc (ok__law_name M.mn) (hr.mono (by decide)) (by rfl) psb (pa_cons (pv 0) pa_nil)) (pg_name (i := 3) sc__law_one.nd rfl (.inl rfl)))
      (pss_one (ps_ret (pe_tup (pa_cons (pe_strL [110, 97, 109, 101]) (pa_cons (pv 3) (pa_cons (pv 3) pa_nil))))))) pss_nil)
      (pss_cons (ps_if (pt_cmpR op_eq (pv 2) pe_int (nomark _)) (pss_cons (ps_asg (pe_op op_add_str (pc (ok__law_name M.mn) (hr.mono (by decide)) (by rfl) psb (pa_cons (pv 0) pa_nil)) (pe_strL [58])) (pg_name (i := 3) sc__law_one.nd rfl (.inl rfl)))
      (pss_one (ps_ret (pe_tup (pa_cons (pe_strL [107, 101, 121, 119, 111, 114, 100]) (pa_cons (pv 3) (pa_cons (pv 3) pa_nil))))))) pss_nil)
      (pss_cons (ps_asg (pc (ok_pk M.mb) (hr.mono (by decide)) (by rfl) psb (pa_cons (pv 0) (pa_cons (pe_lst (pa_cons (pe_strL [58, 61]) (pa_cons (pe_strL [35, 40]) (pa_cons (pe_strL [40]) (pa_cons (pe_strL [41]) (pa_cons (pe_strL [91]) (pa_cons (pe_strL [93]) (pa_cons (pe_strL [58]) (pa_cons (pe_strL [124]) (pa_cons (pe_strL [94]) (pa_cons (pe_strL [46]) (pa_cons (pe_strL [59]) (pa_cons (pe_strL [35, 40]) (pa_cons (pe_strL [41]) pa_nil)))))))))))))) pa_nil))) (pg_name (i := 3) sc__law_one.nd rfl (.inl rfl)))
      (pss_one (ps_ret (pe_tup (pa_cons (pe_strL [115, 105, 103, 110]) (pa_cons (pv 3) (pa_cons (pv 3) pa_nil)))))))))))))), ?_⟩
    show tSeq _ _ _ [some (.ref p), some (.bl neg), none, none] H
    simp only [L2.tSeq, L2.tRet, L2.tVar, L2.tAnd, L2.tOr, L2.tNot, L2.tTest, L2.tOp, L2.tUn, L2.rU, L2.tCB, L2.tCons, L2.tNil, L2.rIxS, L2.rI0, L2.rI, L2.rEq, L2.rNe, L2.tAug, L2.ipI, L2.tC, L2.tIfS, L2.tIf, L2.tCall, L2.tAsg, L2.gName, L2.tSl, L2.rSlS, L2.tPart, L2.tNoPart, L2.tBM, L2.tBM0, L2.tB, L2.tAndV, L2.tOrV, L2.tNotV, L2.tDrop, L2.tNext, L2.tChain, L2.tPar, L2.tPar3, Cm.tErr, Cm.tGT, L2.tTup, L2.tLst,
  List.getElem?_cons_zero, List.getElem?_cons_succ, Option.some.injEq, exists_eq_left', exists_eq_left, exists_eq', exists_eq, exists_and_left, exists_and_right, exists_const, List.cons.injEq, and_true, true_and, L2.V.str.injEq, L2.V.int.injEq, L2.V.bl.injEq, L2.V.ref.injEq, PySem.Str.mk.injEq, Tx.arr1, Tx.str_len, Tx.at_nat, Tx.cut_nat, Tx.find_one,
  and_assoc, Int.ofNat_inj, Nat.add_sub_cancel_left, Lx.take1_eq, decide_eq_true_eq, Bool.not_eq_true', decide_eq_false_iff_not, Int.ofNat_lt, Int.ofNat_le, Bool.false_eq_true, if_false, if_true, List.set_cons_zero, List.set_cons_succ, List.append_nil, List.nil_append, ↓reduceIte, Cm.nat_succ, Cm.nat_add, Cm.nat_two, List.toList_toArray, not_true, not_false_iff, Cm.toArr_inj, Cm.two_one, Cm.tyV_str, Cm.scal_ss, Cm.scal_ii, Cm.scal_bb, Cm.cb_K, reduceCtorEq, false_and, exists_false, or_false, false_or, List.map_cons, List.map_nil]
    refine ⟨p, m, 9, rfl, hb, by omega, by decide, by decide, fun j H1 b1 hb1 hj => ⟨rfl, ?_⟩⟩
    have fin : ∀ (x y : V) (w : Wd) (H2 : Hp) (k : List Nat), But p H H2 → Bag (m + 300) H2 p → w.Wf → w.May neg → S w.kind = S k → w.val = x → S w.text = y → [S k, x, y].length ≤ sizeLine ∧ ∀ a, H2 a = none → Q (V.ref a) (upd H2 a (HO.tup [S k, x, y])) := fun x y w H2 k c1 c2 c3 c4 c5 c6 c7 =>
      ⟨show 3 ≤ sizeLine by decide, fun a na => kk a w _ (c1.trans (Cm.Same.but (same_new na))) (c2.same (same_new na)) c3 c4 (by
        show upd H2 a _ a = some (.tup [S w.kind, w.val, S w.text])
        rw [upd_same, c5, c6, c7])⟩
    split
    · exact ⟨p, _, rfl, hb1, by omega, fun a w H2 b2 hb2 h1 h2 h3 => kk a w H2 (b1.trans b2) (hb2.mono (by omega)) h1 (h2 neg) h3⟩
    · refine ⟨rfl, ?_⟩
      split
      · refine ⟨p, _, rfl, hb1, by omega, fun t H2 b2 hb2 t1 t2 => ⟨t, rfl, by omega, ?_⟩⟩
        exact fin _ _ (.str t) H2 _ (b1.trans b2) (hb2.mono (by omega)) ⟨t1, t2⟩ True.intro rfl rfl rfl
      · refine ⟨rfl, ?_⟩
        split
        · exact ⟨p, _, neg, rfl, hb1, by omega, fun a w H2 b2 hb2 h1 h2 h3 => kk a w H2 (b1.trans b2) (hb2.mono (by omega)) h1 h2 h3⟩
        · refine ⟨rfl, ?_⟩
          split
          · refine ⟨p, _, rfl, hb1, by omega, fun o H2 b2 hb2 ho => ?_⟩
            exact fin _ _ (.op o) H2 _ (b1.trans b2) (hb2.mono (by omega)) ho True.intro rfl rfl rfl
          · refine ⟨_, rfl, ?_⟩
            split
            · refine ⟨p, _, rfl, hb1, by omega, fun n H2 b2 hb2 hn => ?_⟩
              exact fin _ _ (.name n) H2 _ (b1.trans b2) (hb2.mono (by omega)) hn True.intro rfl rfl rfl
            · refine ⟨rfl, ?_⟩
              split
              · refine ⟨p, _, rfl, hb1, by omega, fun n H2 b2 hb2 hn => ?_⟩
                have hl := hn.len
                refine ⟨_, rfl, by rw [Tx.str_len]; exact szl (by simp; omega), ?_⟩
                have e := str_app n [58]
                rw [e]
                exact fin _ _ (.kw n) H2 _ (b1.trans b2) (hb2.mono (by omega)) hn True.intro rfl rfl rfl
              · refine ⟨show 13 ≤ sizeLine by decide, fun q1 n1 => ⟨p, q1, m + 1, _, rfl, hb1.same (same_new n1), by omega, sqL upd_same, hb1.np n1, by decide, by decide, fun x H2 b2 hb2 hx => ?_⟩⟩
                have hx' : x ∈ ([[58, 61], [35, 40], [40], [41], [91], [93], [58], [124], [94], [46], [59], [35, 40], [41]] : List (List Nat)).map S := hx
                obtain ⟨o, ho, rfl⟩ := List.mem_map.mp hx'
                have ho' : o ∈ kSIGNS_FIRST := (show ∀ o ∈ ([[58, 61], [35, 40], [40], [41], [91], [93], [58], [124], [94], [46], [59], [35, 40], [41]] : List (List Nat)), o ∈ kSIGNS_FIRST by decide) o ho
                exact fin _ _ (.sign o) H2 _ ((b1.trans (Cm.Same.but (same_new n1))).trans b2) (hb2.mono (by omega)) ho' True.intro rfl rfl rfl
end
end W
namespace W
open PySem PySem.Spec PyProof.Rows L2 Cm Lx
abbrev s__law_parts : Stmt := topS 46
theorem sc__law_parts : FnScope ["_law_first", "_law_last", "_law_negative_here", "_law_begin", "_law_end"] ["_law_first", "_law_last", "_law_negative_here"] (defScope s__law_parts) := ⟨rfl, rfl, rfl, by decide +kernel, rfl, by decide +kernel, by decide +kernel⟩
abbrev s__law_opened : Stmt := topS 47
theorem sc__law_opened : FnScope ["_law_open_signs", "_law_word"] ["_law_open_signs", "_law_word"] (defScope s__law_opened) := ⟨rfl, rfl, rfl, by decide +kernel, rfl, by decide +kernel, by decide +kernel⟩
abbrev s__law_negative : Stmt := topS 48
theorem sc__law_negative : FnScope ["_law_open_signs", "_law_word"] ["_law_open_signs", "_law_word"] (defScope s__law_negative) := ⟨rfl, rfl, rfl, by decide +kernel, rfl, by decide +kernel, by decide +kernel⟩
structure Mp (K : PySem.W.Frag) (mg : Str → Option Value) : Prop where
  a__law_parts : At K mg "_law_parts" s__law_parts
  a__law_opened : At K mg "_law_opened" s__law_opened
  a__law_negative : At K mg "_law_negative" s__law_negative
def spParts : Sp := fun vs H Q _ => ∃ (a b : Addr) (w w' : Wd) (neg : Bool), vs = [.ref a, .ref b, .bl neg] ∧ WdAt H a w ∧ WdAt H b w' ∧ w.Wf ∧ w'.Wf ∧ ∀ H', Same H H' → Q (.bl (partsF w.kind w.text w'.kind w'.text neg)) H'
def spOpened : Sp := fun vs H Q _ => ∃ (l a : Addr) (wi : List Bool) (w : Wd), vs = [.ref l, .ref a] ∧ H l = some (.lst (wi.map V.bl)) ∧ WdAt H a w ∧ w.Wf ∧ wi.length ≤ 10000 ∧ ∀ l' H', Same H H' → H' l' = some (.lst ((openF wi w.kind w.text).map V.bl)) → Q (.ref l') H'
def spNegative : Sp := fun vs H Q _ => ∃ (l : Addr) (wi : List Bool) (v : V) (last : Option Wd), vs = [.ref l, v] ∧ H l = some (.lst (wi.map V.bl)) ∧ (match last with | none => v = .non | some w => ∃ a, v = .ref a ∧ WdAt H a w ∧ w.Wf) ∧ ∀ H', Same H H' → Q (.bl (negB wi last)) H'
def parts8 (k1 k2 : List Nat) : Bool := decide (k1 ∈ [kOp, kSym]) && decide (k2 = kOp)
def parts7 (k1 t1 k2 t2 : List Nat) (neg : Bool) : Bool := if k1 = kOp ∧ t1 = [45] ∧ t2.headD 0 ∈ kDIGITS then neg else parts8 k1 k2
def parts6 (k1 t1 k2 t2 : List Nat) (neg : Bool) : Bool := if k1 = kKeyword ∨ t1 = [58] then decide (t2.headD 0 = 61) else parts7 k1 t1 k2 t2 neg
def parts5 (k1 t1 k2 t2 : List Nat) (neg : Bool) : Bool := if k1 ∈ [kStr, kSym] ∧ lastD t1 = 39 then decide (t2.headD 0 = 39) else parts6 k1 t1 k2 t2 neg
def parts4 (k1 t1 k2 t2 : List Nat) (neg : Bool) : Bool := if k1 = kSym ∧ isAl (t1.getD 1 0) = true then decide (k2 ∈ [kName, kKeyword]) || decide (t2 = [58]) else parts5 k1 t1 k2 t2 neg
def parts3 (k1 t1 k2 t2 : List Nat) (neg : Bool) : Bool := if k1 = kSym ∧ lastD t1 = 58 then decide (k2 ∈ [kName, kKeyword]) || decide (t2.headD 0 = 61) else parts4 k1 t1 k2 t2 neg
def parts2 (k1 t1 k2 t2 : List Nat) (neg : Bool) : Bool := if k1 = kName then decide (k2 ∈ [kName, kKeyword]) || decide (t2 = [58]) else parts3 k1 t1 k2 t2 neg
theorem parts_1 (k1 t1 k2 t2 : List Nat) (neg : Bool) : partsF k1 t1 k2 t2 neg = if k1 ∈ [kName, kInt, kSym] ∧ t2.headD 0 ∈ kDIGITS ∧ lastD t1 ≠ 39 then !decide (k1 = kSym) || isAl (t1.getD 1 0) else parts2 k1 t1 k2 t2 neg := rfl
theorem eqV_S (a b : List Nat) : eqV (S a) (S b) = decide (a = b) := by
  by_cases h : a = b
  · subst h
    rw [decide_eq_true rfl]
    show decide _ = true
    simp
  · rw [decide_eq_false h]
    show decide _ = false
    simp [h]
theorem inV_S (k : List Nat) : ∀ ks : List (List Nat), inV (S k) (ks.map S) = decide (k ∈ ks)
  | [] => by simp [inV]
  | a :: ks => by
    show (eqV (S a) (S k) || inV (S k) (ks.map S)) = _
    rw [eqV_S, inV_S k ks]
    by_cases h : a = k
    · subst h
      simp
    · rw [decide_eq_false h, Bool.false_or]
      simp [Ne.symm h]
theorem at_0 {t : List Nat} (h : t ≠ []) : atI t 0 = some (t.headD 0) := by
  have := Tx.at_nat t 0
  cases t with
  | nil => exact absurd rfl h
  | cons c t => exact this
theorem at_1 {c d : Nat} {t : List Nat} : atI (c :: d :: t) 1 = some d := Tx.at_nat (c :: d :: t) 1
theorem ifT {c a b : Prop} [Decidable c] (h : c) (x : a) : if c then a else b := by rw [if_pos h]; exact x
theorem ifF {c a b : Prop} [Decidable c] (h : ¬ c) (x : b) : if c then a else b := by rw [if_neg h]; exact x
theorem cut_init (wi : List Bool) : cutV (wi.map V.bl) none (some (-1)) = wi.dropLast.map V.bl := by
  unfold cutV
  rw [HT.sIx_none, List.drop_zero, Nat.sub_zero]
  have e : HT.sIx (wi.map V.bl).length (wi.map V.bl).length (some (-1)) = wi.length - 1 := by
    show (if (-1 : Int) < 0 then ((-1 : Int) + ((wi.map V.bl).length : Int)).toNat else min (-1 : Int).toNat (wi.map V.bl).length) = _
    rw [if_pos (by decide), List.length_map]
    omega
  rw [e, List.dropLast_eq_take, List.map_take]
theorem in_tup {K : PySem.W.Frag} {H : Hp} {k : List Nat} {p : Addr} {Q : VK} (ks : List (List Nat)) (q : Q (.bl (decide (k ∈ ks))) (upd H p (.tup (ks.map S)))) : rIn K false (S k) (.ref p) (upd H p (.tup (ks.map S))) Q := by
  refine ⟨p, ks.map S, rfl, .inr (sqT upd_same), rfl, ?_, ?_⟩
  · rw [List.all_map]
    exact List.all_eq_true.mpr fun _ _ => rfl
  · rw [if_neg (by decide), inV_S]
    exact q
theorem sym_text {w : Wd} (h : w.Wf) (hk : w.kind = kSym) : ∃ c r, w.text = 35 :: c :: r ∧ okc c = true := by
  have ok := wd_okc h
  cases w with
  | symS t => exact ⟨39, _, rfl, by decide⟩
  | symN n =>
    cases n with
    | nil => exact absurd rfl h.ne
    | cons c n => exact ⟨c, n, rfl, ok c (by simp [Wd.text])⟩
  | symK ns =>
    obtain ⟨⟨g1, g2⟩, g3⟩ := h
    cases ns with
    | nil => exact absurd rfl g1
    | cons n ns =>
      cases n with
      | nil => exact absurd rfl (g2 [] List.mem_cons_self).ne
      | cons c n => exact ⟨c, _, rfl, ok c (by simp [Wd.text, kwsT])⟩
  | symO o =>
    cases o with
    | nil => exact absurd h (show ¬ ([] : List Nat) ∈ kOPERATORS_FIRST by decide)
    | cons c o => exact ⟨c, o, rfl, ok c (by simp [Wd.text])⟩
  | _ => exact absurd hk (by simp [Wd.kind, kName, kKeyword, kInt, kStr, kSym, kOp, kSign])
theorem at_m1 {t : List Nat} (h : t ≠ []) : atI t (-1) = some (lastD t) := by
  rw [Cm.atI_last]
  unfold lastD
  rw [List.getLast?_eq_some_getLast h]
  rfl
theorem isalpha_of {c : Nat} (h : okc c = true) : Txt.isalpha ⟨#[c]⟩ = isAl c := by
  have key : ∀ c ∈ List.range 128, Txt.isalpha ⟨#[c]⟩ = isAl c := by decide +kernel
  refine key c (List.mem_range.mpr ?_)
  unfold okc at h
  simp at h
  omega
section
variable {P : Program} {w : World} {K : PySem.W.Frag} {mg : Str → Option Value} {base : Heap} {CB : Addr}
theorem ok__law_parts (M : Mp K mg) : Ok P w K mg base 1 "_law_parts" ["_law_first", "_law_last", "_law_negative_here"] spParts := by
  refine mk M.a__law_parts sc__law_parts (fun _ _ _ _ _ _ us hl => match us, hl with | [_, _, _], _ => rfl) (fun vs H Q E h => ?_) (fun f cdv A outer s H vs Q E hr h => ?_)
  · obtain ⟨a, b, w, w', neg, rfl, _⟩ := h
    rfl
  · obtain ⟨a, b, w, w', neg, rfl, ha, hb, hw, hw', kk⟩ := h
    refine ⟨_, (pss_cons (ps_par (i := 3) (j := 4) (by rfl) sc__law_parts.nd rfl rfl (by decide) rfl rfl (pa_cons (pe_ix ix_str (pe_ix ix_tup (pv 1) pe_int (fun _ _ => rfl)) pe_int (fun _ _ => rfl)) (pa_cons (pe_ix ix_str (pe_ix ix_tup (pv 0) pe_int (fun _ _ => rfl)) (pe_un un_neg pe_int) (fun _ _ => rfl)) pa_nil)) (by rfl))
      (C8.pss_cut (ps_if (PW.pt (pw_and (pt_cmpR op_in_seq (pe_ix ix_tup (pv 0) pe_int (fun _ _ => rfl)) (pe_tup (pa_cons (pe_strL [110, 97, 109, 101]) (pa_cons (pe_strL [105, 110, 116]) (pa_cons (pe_strL [115, 121, 109]) pa_nil)))) (by rfl)) (pw_and (pt_cmpR op_in_sign (pv 3) (pe_strL [48, 49, 50, 51, 52, 53, 54, 55, 56, 57]) (by rfl)) (pw_and1 (pt_cmpR op_ne (pv 4) (pe_strL [39]) (nomark _)))))) (pss_one (ps_ret (pe_or (pe_cmpR op_ne (pe_ix ix_tup (pv 0) pe_int (fun _ _ => rfl)) (pe_strL [115, 121, 109]) (nomark _)) (pe_one (pe_bm0 PySem.F.plainAttrs_str PySem.F.slot_str_isalpha PySem.F.type_str_isalpha mt_isalpha (pe_ix ix_str (pe_ix ix_tup (pv 0) pe_int (fun _ _ => rfl)) pe_int (fun _ _ => rfl))))))) pss_nil)
      (C8.pss_cut (ps_if (pt_cmpR op_eq (pe_ix ix_tup (pv 0) pe_int (fun _ _ => rfl)) (pe_strL [110, 97, 109, 101]) (nomark _)) (pss_one (ps_ret (pe_or (pe_cmpR op_in_seq (pe_ix ix_tup (pv 1) pe_int (fun _ _ => rfl)) (pe_tup (pa_cons (pe_strL [110, 97, 109, 101]) (pa_cons (pe_strL [107, 101, 121, 119, 111, 114, 100]) pa_nil))) (by rfl)) (pe_one (pe_cmpR op_eq (pe_ix ix_tup (pv 1) pe_int (fun _ _ => rfl)) (pe_strL [58]) (nomark _)))))) pss_nil)
      (C8.pss_cut (ps_if (PW.pt (pw_and (pt_cmpR op_eq (pe_ix ix_tup (pv 0) pe_int (fun _ _ => rfl)) (pe_strL [115, 121, 109]) (nomark _)) (pw_and1 (pt_cmpR op_eq (pv 4) (pe_strL [58]) (nomark _))))) (pss_one (ps_ret (pe_or (pe_cmpR op_in_seq (pe_ix ix_tup (pv 1) pe_int (fun _ _ => rfl)) (pe_tup (pa_cons (pe_strL [110, 97, 109, 101]) (pa_cons (pe_strL [107, 101, 121, 119, 111, 114, 100]) pa_nil))) (by rfl)) (pe_one (pe_cmpR op_eq (pv 3) (pe_strL [61]) (nomark _)))))) pss_nil)
      (C8.pss_cut (ps_if (PW.pt (pw_and (pt_cmpR op_eq (pe_ix ix_tup (pv 0) pe_int (fun _ _ => rfl)) (pe_strL [115, 121, 109]) (nomark _)) (pw_and1 (pt_val (pe_bm0 PySem.F.plainAttrs_str PySem.F.slot_str_isalpha PySem.F.type_str_isalpha mt_isalpha (pe_ix ix_str (pe_ix ix_tup (pv 0) pe_int (fun _ _ => rfl)) pe_int (fun _ _ => rfl))))))) (pss_one (ps_ret (pe_or (pe_cmpR op_in_seq (pe_ix ix_tup (pv 1) pe_int (fun _ _ => rfl)) (pe_tup (pa_cons (pe_strL [110, 97, 109, 101]) (pa_cons (pe_strL [107, 101, 121, 119, 111, 114, 100]) pa_nil))) (by rfl)) (pe_one (pe_cmpR op_eq (pe_ix ix_tup (pv 1) pe_int (fun _ _ => rfl)) (pe_strL [58]) (nomark _)))))) pss_nil)
      (C8.pss_cut (ps_if (PW.pt (pw_and (pt_cmpR op_in_seq (pe_ix ix_tup (pv 0) pe_int (fun _ _ => rfl)) (pe_tup (pa_cons (pe_strL [115, 116, 114]) (pa_cons (pe_strL [115, 121, 109]) pa_nil))) (by rfl)) (pw_and1 (pt_cmpR op_eq (pv 4) (pe_strL [39]) (nomark _))))) (pss_one (ps_ret (pe_cmpR op_eq (pv 3) (pe_strL [39]) (nomark _)))) pss_nil)
      (C8.pss_cut (ps_if (PW.pt (pw_or (pt_cmpR op_eq (pe_ix ix_tup (pv 0) pe_int (fun _ _ => rfl)) (pe_strL [107, 101, 121, 119, 111, 114, 100]) (nomark _)) (pw_or1 (pt_cmpR op_eq (pe_ix ix_tup (pv 0) pe_int (fun _ _ => rfl)) (pe_strL [58]) (nomark _))))) (pss_one (ps_ret (pe_cmpR op_eq (pv 3) (pe_strL [61]) (nomark _)))) pss_nil)
      (C8.pss_cut (ps_if (PW.pt (pw_and (pt_cmpR op_eq (pe_ix ix_tup (pv 0) pe_int (fun _ _ => rfl)) (pe_strL [111, 112]) (nomark _)) (pw_and (pt_cmpR op_eq (pe_ix ix_tup (pv 0) pe_int (fun _ _ => rfl)) (pe_strL [45]) (nomark _)) (pw_and1 (pt_cmpR op_in_sign (pv 3) (pe_strL [48, 49, 50, 51, 52, 53, 54, 55, 56, 57]) (by rfl)))))) (pss_one (ps_ret (pv 2))) pss_nil)
      (pss_one (ps_ret (pe_and (pe_cmpR op_in_seq (pe_ix ix_tup (pv 0) pe_int (fun _ _ => rfl)) (pe_tup (pa_cons (pe_strL [111, 112]) (pa_cons (pe_strL [115, 121, 109]) pa_nil))) (by rfl)) (pe_one (pe_cmpR op_eq (pe_ix ix_tup (pv 1) pe_int (fun _ _ => rfl)) (pe_strL [111, 112]) (nomark _)))))))))))))), ?_⟩
    show tSeq _ _ _ [some (.ref a), some (.ref b), some (.bl neg), none, none] H
    have tne := (beg hw).ne
    have tne' := (beg hw').ne
    have hA : ∀ {G : Hp}, Same H G → SqT K G a [S w.kind, w.val, S w.text] := fun s => sqT (s _ _ ha)
    have hB : ∀ {G : Hp}, Same H G → SqT K G b [S w'.kind, w'.val, S w'.text] := fun s => sqT (s _ _ hb)
    have zl : w.text.length ≤ sizeLine := Nat.le_trans (wd_len hw) (by decide)
    have zl' : w'.text.length ≤ sizeLine := Nat.le_trans (wd_len hw') (by decide)
    have fl : ∀ l, flatV (S l) = true := fun _ => rfl
    simp only [L2.tSeq, L2.tRet, L2.tVar, L2.tAnd, L2.tOr, L2.tNot, L2.tTest, L2.tOp, L2.tUn, L2.rU, L2.tCB, L2.tCons, L2.tNil, L2.rIxS, L2.rI0, L2.rI, L2.rEq, L2.rNe, L2.tAug, L2.ipI, L2.tC, L2.tIfS, L2.tIf, L2.tCall, L2.tAsg, L2.gName, L2.tSl, L2.rSlS, L2.tPart, L2.tNoPart, L2.tBM, L2.tBM0, L2.tB, L2.tAndV, L2.tOrV, L2.tNotV, L2.tDrop, L2.tNext, L2.tChain, L2.tPar, L2.tPar3, Cm.tErr, Cm.tGT, L2.tTup, L2.tLst,
  List.getElem?_cons_zero, List.getElem?_cons_succ, Option.some.injEq, exists_eq_left', exists_eq_left, exists_eq', exists_eq, exists_and_left, exists_and_right, exists_const, List.cons.injEq, and_true, true_and, L2.V.str.injEq, L2.V.int.injEq, L2.V.bl.injEq, L2.V.ref.injEq, PySem.Str.mk.injEq, Tx.arr1, Tx.str_len, Tx.at_nat, Tx.cut_nat, Tx.find_one,
  and_assoc, Int.ofNat_inj, Nat.add_sub_cancel_left, Lx.take1_eq, decide_eq_true_eq, Bool.not_eq_true', decide_eq_false_iff_not, Int.ofNat_lt, Int.ofNat_le, Bool.false_eq_true, if_false, if_true, List.set_cons_zero, List.set_cons_succ, List.append_nil, List.nil_append, ↓reduceIte, Cm.nat_succ, Cm.nat_add, Cm.nat_two, List.toList_toArray, not_true, not_false_iff, Cm.toArr_inj, Cm.two_one, Cm.tyV_str, Cm.scal_ss, Cm.scal_ii, Cm.scal_bb, Cm.cb_K, reduceCtorEq, false_and, exists_false, or_false, false_or, List.map_cons, List.map_nil, rIxT, C8.tCut]
    refine ⟨_, hB (Same.refl H), S w'.text, rfl, _, rfl, by rw [Tx.str_len]; exact zl', w'.text.headD 0, by rw [List.toList_toArray]; exact at_0 tne', _, hA (Same.refl H), S w.text, rfl, _, rfl, by rw [Tx.str_len]; exact zl, lastD w.text, by rw [List.toList_toArray]; exact at_m1 tne, ?_⟩
    generalize hb0 : w'.text.headD 0 = bb
    generalize he0 : lastD w.text = ee
    refine ⟨fun σ G => σ = [some (V.ref a), some (V.ref b), some (V.bl neg), some (V.str ⟨#[bb]⟩), some (V.str ⟨#[ee]⟩)] ∧ Same H G ∧ partsF w.kind w.text w'.kind w'.text neg = parts2 w.kind w.text w'.kind w'.text neg, ?_, ?_⟩
    · refine ⟨_, hA (Same.refl H), S w.kind, rfl, by decide, fun p np => in_tup [kName, kInt, kSym] ⟨_, rfl, ?_⟩⟩
      have sp : Same H (upd H p (.tup ([kName, kInt, kSym].map S))) := same_new np
      by_cases c1 : w.kind ∈ [kName, kInt, kSym]
      · refine ifT (decide_eq_true c1) ?_
        by_cases c2 : bb ∈ kDIGITS
        · refine ifT (show bb ∈ [48, 49, 50, 51, 52, 53, 54, 55, 56, 57] from c2) ?_
          by_cases c3 : ee = 39
          · refine ifF (fun z => z c3) ?_
            exact ⟨rfl, sp, by rw [parts_1, if_neg (fun z => z.2.2 (he0.trans c3))]⟩
          · refine ifT c3 ?_
            have ep : partsF w.kind w.text w'.kind w'.text neg = (!decide (w.kind = kSym) || isAl (w.text.getD 1 0)) := by rw [parts_1, if_pos ⟨c1, by rw [hb0]; exact c2, by rw [he0]; exact c3⟩]
            have kq := kk _ sp
            rw [ep] at kq
            refine ⟨_, hA sp, S w.kind, rfl, rfl, ?_⟩
            by_cases c4 : w.kind = kSym
            · refine ifF (fun z => z (sv_inj.mpr c4)) ?_
              obtain ⟨d, r, ed, od⟩ := sym_text hw c4
              refine ⟨_, hA sp, S w.text, rfl, _, rfl, by rw [Tx.str_len]; exact zl, d, by rw [List.toList_toArray, ed]; exact at_1, ?_⟩
              rw [decide_eq_true c4, ed] at kq
              rw [isalpha_of od]
              exact kq
            · refine ifT (fun z => c4 (sv_inj.mp z)) ?_
              rw [decide_eq_false c4] at kq
              exact kq
        · refine ifF (show ¬ bb ∈ [48, 49, 50, 51, 52, 53, 54, 55, 56, 57] from c2) ?_
          exact ⟨rfl, sp, by rw [parts_1, if_neg (fun z => c2 (by rw [← hb0]; exact z.2.1))]⟩
      · refine ifF (by rw [decide_eq_false c1]; decide) ?_
        exact ⟨rfl, sp, by rw [parts_1, if_neg (fun z => c1 z.1)]⟩
    rintro σ G ⟨rfl, sG, eG⟩
    refine ⟨fun σ G => σ = [some (V.ref a), some (V.ref b), some (V.bl neg), some (V.str ⟨#[bb]⟩), some (V.str ⟨#[ee]⟩)] ∧ Same H G ∧ partsF w.kind w.text w'.kind w'.text neg = parts3 w.kind w.text w'.kind w'.text neg, ?_, ?_⟩
    · simp only [L2.tSeq, L2.tRet, L2.tVar, L2.tAnd, L2.tOr, L2.tNot, L2.tTest, L2.tOp, L2.tUn, L2.rU, L2.tCB, L2.tCons, L2.tNil, L2.rIxS, L2.rI0, L2.rI, L2.rEq, L2.rNe, L2.tAug, L2.ipI, L2.tC, L2.tIfS, L2.tIf, L2.tCall, L2.tAsg, L2.gName, L2.tSl, L2.rSlS, L2.tPart, L2.tNoPart, L2.tBM, L2.tBM0, L2.tB, L2.tAndV, L2.tOrV, L2.tNotV, L2.tDrop, L2.tNext, L2.tChain, L2.tPar, L2.tPar3, Cm.tErr, Cm.tGT, L2.tTup, L2.tLst,
  List.getElem?_cons_zero, List.getElem?_cons_succ, Option.some.injEq, exists_eq_left', exists_eq_left, exists_eq', exists_eq, exists_and_left, exists_and_right, exists_const, List.cons.injEq, and_true, true_and, L2.V.str.injEq, L2.V.int.injEq, L2.V.bl.injEq, L2.V.ref.injEq, PySem.Str.mk.injEq, Tx.arr1, Tx.str_len, Tx.at_nat, Tx.cut_nat, Tx.find_one,
  and_assoc, Int.ofNat_inj, Nat.add_sub_cancel_left, Lx.take1_eq, decide_eq_true_eq, Bool.not_eq_true', decide_eq_false_iff_not, Int.ofNat_lt, Int.ofNat_le, Bool.false_eq_true, if_false, if_true, List.set_cons_zero, List.set_cons_succ, List.append_nil, List.nil_append, ↓reduceIte, Cm.nat_succ, Cm.nat_add, Cm.nat_two, List.toList_toArray, not_true, not_false_iff, Cm.toArr_inj, Cm.two_one, Cm.tyV_str, Cm.scal_ss, Cm.scal_ii, Cm.scal_bb, Cm.cb_K, reduceCtorEq, false_and, exists_false, or_false, false_or, List.map_cons, List.map_nil]
      refine ⟨_, hA sG, S w.kind, rfl, rfl, ?_⟩
      by_cases c1 : w.kind = kName
      · refine ifT (sv_inj.mpr c1) ?_
        have ep : partsF w.kind w.text w'.kind w'.text neg = (decide (w'.kind ∈ [kName, kKeyword]) || decide (w'.text = [58])) := by rw [eG]; exact if_pos c1
        refine ⟨_, hB sG, S w'.kind, rfl, by decide, fun p np => in_tup [kName, kKeyword] ⟨_, rfl, ?_⟩⟩
        have sp := sG.trans (same_new np (o := .tup ([kName, kKeyword].map S)))
        have kq := kk _ sp
        rw [ep] at kq
        by_cases c9 : w'.kind ∈ [kName, kKeyword]
        · refine ifT (decide_eq_true c9) ?_
          rw [decide_eq_true c9, Bool.true_or] at kq
          exact kq
        · refine ifF (by rw [decide_eq_false c9]; decide) ?_
          rw [decide_eq_false c9, Bool.false_or] at kq
          refine ⟨_, hB sp, S w'.text, rfl, rfl, ?_⟩
          rw [show decide (S w'.text = S [58]) = decide (w'.text = [58]) from decide_eq_decide.mpr sv_inj]
          exact kq
      · refine ifF (fun z => c1 (sv_inj.mp z)) ?_
        exact ⟨sG, by rw [eG]; exact if_neg c1⟩
    rintro σ G ⟨rfl, sG, eG⟩
    refine ⟨fun σ G => σ = [some (V.ref a), some (V.ref b), some (V.bl neg), some (V.str ⟨#[bb]⟩), some (V.str ⟨#[ee]⟩)] ∧ Same H G ∧ partsF w.kind w.text w'.kind w'.text neg = parts4 w.kind w.text w'.kind w'.text neg, ?_, ?_⟩
    · simp only [L2.tSeq, L2.tRet, L2.tVar, L2.tAnd, L2.tOr, L2.tNot, L2.tTest, L2.tOp, L2.tUn, L2.rU, L2.tCB, L2.tCons, L2.tNil, L2.rIxS, L2.rI0, L2.rI, L2.rEq, L2.rNe, L2.tAug, L2.ipI, L2.tC, L2.tIfS, L2.tIf, L2.tCall, L2.tAsg, L2.gName, L2.tSl, L2.rSlS, L2.tPart, L2.tNoPart, L2.tBM, L2.tBM0, L2.tB, L2.tAndV, L2.tOrV, L2.tNotV, L2.tDrop, L2.tNext, L2.tChain, L2.tPar, L2.tPar3, Cm.tErr, Cm.tGT, L2.tTup, L2.tLst,
  List.getElem?_cons_zero, List.getElem?_cons_succ, Option.some.injEq, exists_eq_left', exists_eq_left, exists_eq', exists_eq, exists_and_left, exists_and_right, exists_const, List.cons.injEq, and_true, true_and, L2.V.str.injEq, L2.V.int.injEq, L2.V.bl.injEq, L2.V.ref.injEq, PySem.Str.mk.injEq, Tx.arr1, Tx.str_len, Tx.at_nat, Tx.cut_nat, Tx.find_one,
  and_assoc, Int.ofNat_inj, Nat.add_sub_cancel_left, Lx.take1_eq, decide_eq_true_eq, Bool.not_eq_true', decide_eq_false_iff_not, Int.ofNat_lt, Int.ofNat_le, Bool.false_eq_true, if_false, if_true, List.set_cons_zero, List.set_cons_succ, List.append_nil, List.nil_append, ↓reduceIte, Cm.nat_succ, Cm.nat_add, Cm.nat_two, List.toList_toArray, not_true, not_false_iff, Cm.toArr_inj, Cm.two_one, Cm.tyV_str, Cm.scal_ss, Cm.scal_ii, Cm.scal_bb, Cm.cb_K, reduceCtorEq, false_and, exists_false, or_false, false_or, List.map_cons, List.map_nil]
      refine ⟨_, hA sG, S w.kind, rfl, rfl, ?_⟩
      by_cases c1 : w.kind = kSym
      · refine ifT (sv_inj.mpr c1) ?_
        by_cases c2 : ee = 58
        · refine ifT c2 ?_
          have ep : partsF w.kind w.text w'.kind w'.text neg = (decide (w'.kind ∈ [kName, kKeyword]) || decide (w'.text.headD 0 = 61)) := by rw [eG]; exact if_pos ⟨c1, he0.trans c2⟩
          refine ⟨_, hB sG, S w'.kind, rfl, by decide, fun p np => in_tup [kName, kKeyword] ⟨_, rfl, ?_⟩⟩
          have sp := sG.trans (same_new np (o := .tup ([kName, kKeyword].map S)))
          have kq := kk _ sp
          rw [ep] at kq
          by_cases c9 : w'.kind ∈ [kName, kKeyword]
          · refine ifT (decide_eq_true c9) ?_
            rw [decide_eq_true c9, Bool.true_or] at kq
            exact kq
          · refine ifF (by rw [decide_eq_false c9]; decide) ?_
            rw [decide_eq_false c9, Bool.false_or] at kq
            rw [hb0] at kq
            exact kq
        · refine ifF c2 ?_
          exact ⟨sG, by rw [eG]; exact if_neg (fun z => c2 (he0.symm.trans z.2))⟩
      · refine ifF (fun z => c1 (sv_inj.mp z)) ?_
        exact ⟨sG, by rw [eG]; exact if_neg (fun z => c1 z.1)⟩
    rintro σ G ⟨rfl, sG, eG⟩
    refine ⟨fun σ G => σ = [some (V.ref a), some (V.ref b), some (V.bl neg), some (V.str ⟨#[bb]⟩), some (V.str ⟨#[ee]⟩)] ∧ Same H G ∧ partsF w.kind w.text w'.kind w'.text neg = parts5 w.kind w.text w'.kind w'.text neg, ?_, ?_⟩
    · simp only [L2.tSeq, L2.tRet, L2.tVar, L2.tAnd, L2.tOr, L2.tNot, L2.tTest, L2.tOp, L2.tUn, L2.rU, L2.tCB, L2.tCons, L2.tNil, L2.rIxS, L2.rI0, L2.rI, L2.rEq, L2.rNe, L2.tAug, L2.ipI, L2.tC, L2.tIfS, L2.tIf, L2.tCall, L2.tAsg, L2.gName, L2.tSl, L2.rSlS, L2.tPart, L2.tNoPart, L2.tBM, L2.tBM0, L2.tB, L2.tAndV, L2.tOrV, L2.tNotV, L2.tDrop, L2.tNext, L2.tChain, L2.tPar, L2.tPar3, Cm.tErr, Cm.tGT, L2.tTup, L2.tLst,
  List.getElem?_cons_zero, List.getElem?_cons_succ, Option.some.injEq, exists_eq_left', exists_eq_left, exists_eq', exists_eq, exists_and_left, exists_and_right, exists_const, List.cons.injEq, and_true, true_and, L2.V.str.injEq, L2.V.int.injEq, L2.V.bl.injEq, L2.V.ref.injEq, PySem.Str.mk.injEq, Tx.arr1, Tx.str_len, Tx.at_nat, Tx.cut_nat, Tx.find_one,
  and_assoc, Int.ofNat_inj, Nat.add_sub_cancel_left, Lx.take1_eq, decide_eq_true_eq, Bool.not_eq_true', decide_eq_false_iff_not, Int.ofNat_lt, Int.ofNat_le, Bool.false_eq_true, if_false, if_true, List.set_cons_zero, List.set_cons_succ, List.append_nil, List.nil_append, ↓reduceIte, Cm.nat_succ, Cm.nat_add, Cm.nat_two, List.toList_toArray, not_true, not_false_iff, Cm.toArr_inj, Cm.two_one, Cm.tyV_str, Cm.scal_ss, Cm.scal_ii, Cm.scal_bb, Cm.cb_K, reduceCtorEq, false_and, exists_false, or_false, false_or, List.map_cons, List.map_nil]
      refine ⟨_, hA sG, S w.kind, rfl, rfl, ?_⟩
      by_cases c1 : w.kind = kSym
      · refine ifT (sv_inj.mpr c1) ?_
        obtain ⟨d, r, ed, od⟩ := sym_text hw c1
        have eg : w.text.getD 1 0 = d := by rw [ed]; rfl
        refine ⟨_, hA sG, S w.text, rfl, _, rfl, by rw [Tx.str_len]; exact zl, d, by rw [List.toList_toArray, ed]; exact at_1, ?_⟩
        rw [isalpha_of od]
        by_cases c2 : isAl d = true
        · refine ifT c2 ?_
          have ep : partsF w.kind w.text w'.kind w'.text neg = (decide (w'.kind ∈ [kName, kKeyword]) || decide (w'.text = [58])) := by rw [eG]; exact if_pos ⟨c1, by rw [eg]; exact c2⟩
          refine ⟨_, hB sG, S w'.kind, rfl, by decide, fun p np => in_tup [kName, kKeyword] ⟨_, rfl, ?_⟩⟩
          have sp := sG.trans (same_new np (o := .tup ([kName, kKeyword].map S)))
          have kq := kk _ sp
          rw [ep] at kq
          by_cases c9 : w'.kind ∈ [kName, kKeyword]
          · refine ifT (decide_eq_true c9) ?_
            rw [decide_eq_true c9, Bool.true_or] at kq
            exact kq
          · refine ifF (by rw [decide_eq_false c9]; decide) ?_
            rw [decide_eq_false c9, Bool.false_or] at kq
            refine ⟨_, hB sp, S w'.text, rfl, rfl, ?_⟩
            rw [show decide (S w'.text = S [58]) = decide (w'.text = [58]) from decide_eq_decide.mpr sv_inj]
            exact kq
        · refine ifF c2 ?_
          exact ⟨sG, by rw [eG]; exact if_neg (fun z => c2 (by rw [← eg]; exact z.2))⟩
      · refine ifF (fun z => c1 (sv_inj.mp z)) ?_
        exact ⟨sG, by rw [eG]; exact if_neg (fun z => c1 z.1)⟩
    rintro σ G ⟨rfl, sG, eG⟩
    refine ⟨fun σ G => σ = [some (V.ref a), some (V.ref b), some (V.bl neg), some (V.str ⟨#[bb]⟩), some (V.str ⟨#[ee]⟩)] ∧ Same H G ∧ partsF w.kind w.text w'.kind w'.text neg = parts6 w.kind w.text w'.kind w'.text neg, ?_, ?_⟩
    · simp only [L2.tSeq, L2.tRet, L2.tVar, L2.tAnd, L2.tOr, L2.tNot, L2.tTest, L2.tOp, L2.tUn, L2.rU, L2.tCB, L2.tCons, L2.tNil, L2.rIxS, L2.rI0, L2.rI, L2.rEq, L2.rNe, L2.tAug, L2.ipI, L2.tC, L2.tIfS, L2.tIf, L2.tCall, L2.tAsg, L2.gName, L2.tSl, L2.rSlS, L2.tPart, L2.tNoPart, L2.tBM, L2.tBM0, L2.tB, L2.tAndV, L2.tOrV, L2.tNotV, L2.tDrop, L2.tNext, L2.tChain, L2.tPar, L2.tPar3, Cm.tErr, Cm.tGT, L2.tTup, L2.tLst,
  List.getElem?_cons_zero, List.getElem?_cons_succ, Option.some.injEq, exists_eq_left', exists_eq_left, exists_eq', exists_eq, exists_and_left, exists_and_right, exists_const, List.cons.injEq, and_true, true_and, L2.V.str.injEq, L2.V.int.injEq, L2.V.bl.injEq, L2.V.ref.injEq, PySem.Str.mk.injEq, Tx.arr1, Tx.str_len, Tx.at_nat, Tx.cut_nat, Tx.find_one,
  and_assoc, Int.ofNat_inj, Nat.add_sub_cancel_left, Lx.take1_eq, decide_eq_true_eq, Bool.not_eq_true', decide_eq_false_iff_not, Int.ofNat_lt, Int.ofNat_le, Bool.false_eq_true, if_false, if_true, List.set_cons_zero, List.set_cons_succ, List.append_nil, List.nil_append, ↓reduceIte, Cm.nat_succ, Cm.nat_add, Cm.nat_two, List.toList_toArray, not_true, not_false_iff, Cm.toArr_inj, Cm.two_one, Cm.tyV_str, Cm.scal_ss, Cm.scal_ii, Cm.scal_bb, Cm.cb_K, reduceCtorEq, false_and, exists_false, or_false, false_or, List.map_cons, List.map_nil]
      refine ⟨_, hA sG, S w.kind, rfl, by decide, fun p np => in_tup [kStr, kSym] ⟨_, rfl, ?_⟩⟩
      have sp := sG.trans (same_new np (o := .tup ([kStr, kSym].map S)))
      by_cases c1 : w.kind ∈ [kStr, kSym]
      · refine ifT (decide_eq_true c1) ?_
        by_cases c2 : ee = 39
        · refine ifT c2 ?_
          have ep : partsF w.kind w.text w'.kind w'.text neg = decide (w'.text.headD 0 = 39) := by rw [eG]; exact if_pos ⟨c1, he0.trans c2⟩
          have kq := kk _ sp
          rw [ep, hb0] at kq
          exact kq
        · refine ifF c2 ?_
          exact ⟨sp, by rw [eG]; exact if_neg (fun z => c2 (he0.symm.trans z.2))⟩
      · refine ifF (by rw [decide_eq_false c1]; decide) ?_
        exact ⟨sp, by rw [eG]; exact if_neg (fun z => c1 z.1)⟩
    rintro σ G ⟨rfl, sG, eG⟩
    refine ⟨fun σ G => σ = [some (V.ref a), some (V.ref b), some (V.bl neg), some (V.str ⟨#[bb]⟩), some (V.str ⟨#[ee]⟩)] ∧ Same H G ∧ partsF w.kind w.text w'.kind w'.text neg = parts7 w.kind w.text w'.kind w'.text neg, ?_, ?_⟩
    · simp only [L2.tSeq, L2.tRet, L2.tVar, L2.tAnd, L2.tOr, L2.tNot, L2.tTest, L2.tOp, L2.tUn, L2.rU, L2.tCB, L2.tCons, L2.tNil, L2.rIxS, L2.rI0, L2.rI, L2.rEq, L2.rNe, L2.tAug, L2.ipI, L2.tC, L2.tIfS, L2.tIf, L2.tCall, L2.tAsg, L2.gName, L2.tSl, L2.rSlS, L2.tPart, L2.tNoPart, L2.tBM, L2.tBM0, L2.tB, L2.tAndV, L2.tOrV, L2.tNotV, L2.tDrop, L2.tNext, L2.tChain, L2.tPar, L2.tPar3, Cm.tErr, Cm.tGT, L2.tTup, L2.tLst,
  List.getElem?_cons_zero, List.getElem?_cons_succ, Option.some.injEq, exists_eq_left', exists_eq_left, exists_eq', exists_eq, exists_and_left, exists_and_right, exists_const, List.cons.injEq, and_true, true_and, L2.V.str.injEq, L2.V.int.injEq, L2.V.bl.injEq, L2.V.ref.injEq, PySem.Str.mk.injEq, Tx.arr1, Tx.str_len, Tx.at_nat, Tx.cut_nat, Tx.find_one,
  and_assoc, Int.ofNat_inj, Nat.add_sub_cancel_left, Lx.take1_eq, decide_eq_true_eq, Bool.not_eq_true', decide_eq_false_iff_not, Int.ofNat_lt, Int.ofNat_le, Bool.false_eq_true, if_false, if_true, List.set_cons_zero, List.set_cons_succ, List.append_nil, List.nil_append, ↓reduceIte, Cm.nat_succ, Cm.nat_add, Cm.nat_two, List.toList_toArray, not_true, not_false_iff, Cm.toArr_inj, Cm.two_one, Cm.tyV_str, Cm.scal_ss, Cm.scal_ii, Cm.scal_bb, Cm.cb_K, reduceCtorEq, false_and, exists_false, or_false, false_or, List.map_cons, List.map_nil]
      refine ⟨_, hA sG, S w.kind, rfl, rfl, ?_⟩
      have fin : w.kind = kKeyword ∨ w.text = [58] → Q (V.bl (decide (bb = 61))) G := fun c => by
        have kq := kk _ sG
        rw [show partsF w.kind w.text w'.kind w'.text neg = decide (w'.text.headD 0 = 61) by rw [eG]; exact if_pos c, hb0] at kq
        exact kq
      by_cases c1 : w.kind = kKeyword
      · refine ifT (sv_inj.mpr c1) ?_
        exact fin (.inl c1)
      · refine ifF (fun z => c1 (sv_inj.mp z)) ?_
        refine ⟨_, hA sG, S w.text, rfl, rfl, ?_⟩
        by_cases c2 : w.text = [58]
        · refine ifT (sv_inj.mpr c2) ?_
          exact fin (.inr c2)
        · refine ifF (fun z => c2 (sv_inj.mp z)) ?_
          exact ⟨sG, by rw [eG]; exact if_neg (fun z => z.elim c1 c2)⟩
    rintro σ G ⟨rfl, sG, eG⟩
    refine ⟨fun σ G => σ = [some (V.ref a), some (V.ref b), some (V.bl neg), some (V.str ⟨#[bb]⟩), some (V.str ⟨#[ee]⟩)] ∧ Same H G ∧ partsF w.kind w.text w'.kind w'.text neg = parts8 w.kind w'.kind, ?_, ?_⟩
    · simp only [L2.tSeq, L2.tRet, L2.tVar, L2.tAnd, L2.tOr, L2.tNot, L2.tTest, L2.tOp, L2.tUn, L2.rU, L2.tCB, L2.tCons, L2.tNil, L2.rIxS, L2.rI0, L2.rI, L2.rEq, L2.rNe, L2.tAug, L2.ipI, L2.tC, L2.tIfS, L2.tIf, L2.tCall, L2.tAsg, L2.gName, L2.tSl, L2.rSlS, L2.tPart, L2.tNoPart, L2.tBM, L2.tBM0, L2.tB, L2.tAndV, L2.tOrV, L2.tNotV, L2.tDrop, L2.tNext, L2.tChain, L2.tPar, L2.tPar3, Cm.tErr, Cm.tGT, L2.tTup, L2.tLst,
  List.getElem?_cons_zero, List.getElem?_cons_succ, Option.some.injEq, exists_eq_left', exists_eq_left, exists_eq', exists_eq, exists_and_left, exists_and_right, exists_const, List.cons.injEq, and_true, true_and, L2.V.str.injEq, L2.V.int.injEq, L2.V.bl.injEq, L2.V.ref.injEq, PySem.Str.mk.injEq, Tx.arr1, Tx.str_len, Tx.at_nat, Tx.cut_nat, Tx.find_one,
  and_assoc, Int.ofNat_inj, Nat.add_sub_cancel_left, Lx.take1_eq, decide_eq_true_eq, Bool.not_eq_true', decide_eq_false_iff_not, Int.ofNat_lt, Int.ofNat_le, Bool.false_eq_true, if_false, if_true, List.set_cons_zero, List.set_cons_succ, List.append_nil, List.nil_append, ↓reduceIte, Cm.nat_succ, Cm.nat_add, Cm.nat_two, List.toList_toArray, not_true, not_false_iff, Cm.toArr_inj, Cm.two_one, Cm.tyV_str, Cm.scal_ss, Cm.scal_ii, Cm.scal_bb, Cm.cb_K, reduceCtorEq, false_and, exists_false, or_false, false_or, List.map_cons, List.map_nil]
      refine ⟨_, hA sG, S w.kind, rfl, rfl, ?_⟩
      by_cases c1 : w.kind = kOp
      · refine ifT (sv_inj.mpr c1) ?_
        refine ⟨_, hA sG, S w.text, rfl, rfl, ?_⟩
        by_cases c2 : w.text = [45]
        · refine ifT (sv_inj.mpr c2) ?_
          by_cases c3 : bb ∈ kDIGITS
          · refine ifT c3 ?_
            have kq := kk _ sG
            rw [show partsF w.kind w.text w'.kind w'.text neg = neg by rw [eG]; exact if_pos ⟨c1, c2, by rw [hb0]; exact c3⟩] at kq
            exact kq
          · refine ifF c3 ?_
            exact ⟨sG, by rw [eG]; exact if_neg (fun z => c3 (by rw [← hb0]; exact z.2.2))⟩
        · refine ifF (fun z => c2 (sv_inj.mp z)) ?_
          exact ⟨sG, by rw [eG]; exact if_neg (fun z => c2 z.2.1)⟩
      · refine ifF (fun z => c1 (sv_inj.mp z)) ?_
        exact ⟨sG, by rw [eG]; exact if_neg (fun z => c1 z.1)⟩
    rintro σ G ⟨rfl, sG, eG⟩
    simp only [L2.tSeq, L2.tRet, L2.tVar, L2.tAnd, L2.tOr, L2.tNot, L2.tTest, L2.tOp, L2.tUn, L2.rU, L2.tCB, L2.tCons, L2.tNil, L2.rIxS, L2.rI0, L2.rI, L2.rEq, L2.rNe, L2.tAug, L2.ipI, L2.tC, L2.tIfS, L2.tIf, L2.tCall, L2.tAsg, L2.gName, L2.tSl, L2.rSlS, L2.tPart, L2.tNoPart, L2.tBM, L2.tBM0, L2.tB, L2.tAndV, L2.tOrV, L2.tNotV, L2.tDrop, L2.tNext, L2.tChain, L2.tPar, L2.tPar3, Cm.tErr, Cm.tGT, L2.tTup, L2.tLst,
  List.getElem?_cons_zero, List.getElem?_cons_succ, Option.some.injEq, exists_eq_left', exists_eq_left, exists_eq', exists_eq, exists_and_left, exists_and_right, exists_const, List.cons.injEq, and_true, true_and, L2.V.str.injEq, L2.V.int.injEq, L2.V.bl.injEq, L2.V.ref.injEq, PySem.Str.mk.injEq, Tx.arr1, Tx.str_len, Tx.at_nat, Tx.cut_nat, Tx.find_one,
  and_assoc, Int.ofNat_inj, Nat.add_sub_cancel_left, Lx.take1_eq, decide_eq_true_eq, Bool.not_eq_true', decide_eq_false_iff_not, Int.ofNat_lt, Int.ofNat_le, Bool.false_eq_true, if_false, if_true, List.set_cons_zero, List.set_cons_succ, List.append_nil, List.nil_append, ↓reduceIte, Cm.nat_succ, Cm.nat_add, Cm.nat_two, List.toList_toArray, not_true, not_false_iff, Cm.toArr_inj, Cm.two_one, Cm.tyV_str, Cm.scal_ss, Cm.scal_ii, Cm.scal_bb, Cm.cb_K, reduceCtorEq, false_and, exists_false, or_false, false_or, List.map_cons, List.map_nil]
    refine ⟨_, hA sG, S w.kind, rfl, by decide, fun p np => in_tup [kOp, kSym] ⟨_, rfl, ?_⟩⟩
    have sp := sG.trans (same_new np (o := .tup ([kOp, kSym].map S)))
    have kq := kk _ sp
    rw [eG] at kq
    unfold parts8 at kq
    by_cases c1 : w.kind ∈ [kOp, kSym]
    · refine ifT (decide_eq_true c1) ?_
      refine ⟨_, hB sp, S w'.kind, rfl, rfl, ?_⟩
      rw [decide_eq_true c1, Bool.true_and] at kq
      rw [show decide (S w'.kind = S [111, 112]) = decide (w'.kind = kOp) from decide_eq_decide.mpr sv_inj]
      exact kq
    · refine ifF (by rw [decide_eq_false c1]; decide) ?_
      rw [decide_eq_false c1, Bool.false_and] at kq
      exact kq
theorem ok__law_opened (M : Mp K mg) : Ok P w K mg base 1 "_law_opened" ["_law_open_signs", "_law_word"] spOpened := by
  refine mk M.a__law_opened sc__law_opened (fun _ _ _ _ _ _ us hl => match us, hl with | [_, _], _ => rfl) (fun vs H Q E h => ?_) (fun f cdv A outer s H vs Q E hr h => ?_)
  · obtain ⟨l, a, wi, w, rfl, _⟩ := h
    rfl
  · obtain ⟨l, a, wi, w, rfl, hl, ha, hw, hwl, kk⟩ := h
    refine ⟨_, (C8.pss_cut (ps_if (PW.pt (pw_and (pt_cmpR op_eq (pe_ix ix_tup (pv 1) pe_int (fun _ _ => rfl)) (pe_strL [115, 105, 103, 110]) (nomark _)) (pw_and1 (pt_cmpR op_in_seq (pe_ix ix_tup (pv 1) pe_int (fun _ _ => rfl)) (pe_tup (pa_cons (pe_strL [35, 40]) (pa_cons (pe_strL [40]) pa_nil))) (by rfl))))) (pss_one (ps_ret (pe_op op_cat (pv 0) (pe_lst (pa_cons (pe_or (pe_cmpR op_eq (pe_ix ix_tup (pv 1) pe_int (fun _ _ => rfl)) (pe_strL [35, 40]) (nomark _)) (pe_one (pe_cmpR (op_eqF hr.units0) (pe_slice sl_list (pv 0) (po_some (pe_un un_neg pe_int)) po_none) (pe_lst (pa_cons pe_bl pa_nil)) (nomark _)))) pa_nil))))) pss_nil)
      (C8.pss_cut (ps_if (PW.pt (pw_and (pt_cmpR op_eq (pe_ix ix_tup (pv 1) pe_int (fun _ _ => rfl)) (pe_strL [115, 105, 103, 110]) (nomark _)) (pw_and1 (pt_cmpR op_eq (pe_ix ix_tup (pv 1) pe_int (fun _ _ => rfl)) (pe_strL [41]) (nomark _))))) (pss_one (ps_ret (pe_slice sl_list (pv 0) po_none (po_some (pe_un un_neg pe_int))))) pss_nil)
      (pss_one (ps_ret (pv 0))))), ?_⟩
    show C8.tCut _ _ _ [some (.ref l), some (.ref a)] H
    have hA : ∀ {G : Hp}, Same H G → SqT K G a [S w.kind, w.val, S w.text] := fun s => sqT (s _ _ ha)
    have hL : ∀ {G : Hp}, Same H G → G l = some (.lst (wi.map V.bl)) := fun s => s _ _ hl
    have wl : (wi.map V.bl).length ≤ 10000 := by rw [List.length_map]; exact hwl
    have cat : ∀ (G : Hp) (x : Bool), Same H G → openF wi w.kind w.text = wi ++ [x] → [V.bl x].length ≤ sizeLine ∧ ∀ p, G p = none → rCat (V.ref l) (V.ref p) (upd G p (HO.lst [V.bl x])) Q := fun G x sG ex =>
      ⟨show 1 ≤ sizeLine by decide, fun p np => ⟨l, p, wi.map V.bl, [V.bl x], rfl, rfl, (sG.trans (same_new np)) _ _ hl, upd_same, szl (by simp only [List.length_cons, List.length_nil]; omega), fun q nq => kk q _ ((sG.trans (same_new np)).trans (same_new nq)) (by rw [upd_same, ex, List.map_append]; rfl)⟩⟩
    simp only [L2.tSeq, L2.tRet, L2.tVar, L2.tAnd, L2.tOr, L2.tNot, L2.tTest, L2.tOp, L2.tUn, L2.rU, L2.tCB, L2.tCons, L2.tNil, L2.rIxS, L2.rI0, L2.rI, L2.rEq, L2.rNe, L2.tAug, L2.ipI, L2.tC, L2.tIfS, L2.tIf, L2.tCall, L2.tAsg, L2.gName, L2.tSl, L2.rSlS, L2.tPart, L2.tNoPart, L2.tBM, L2.tBM0, L2.tB, L2.tAndV, L2.tOrV, L2.tNotV, L2.tDrop, L2.tNext, L2.tChain, L2.tPar, L2.tPar3, Cm.tErr, Cm.tGT, L2.tTup, L2.tLst,
  List.getElem?_cons_zero, List.getElem?_cons_succ, Option.some.injEq, exists_eq_left', exists_eq_left, exists_eq', exists_eq, exists_and_left, exists_and_right, exists_const, List.cons.injEq, and_true, true_and, L2.V.str.injEq, L2.V.int.injEq, L2.V.bl.injEq, L2.V.ref.injEq, PySem.Str.mk.injEq, Tx.arr1, Tx.str_len, Tx.at_nat, Tx.cut_nat, Tx.find_one,
  and_assoc, Int.ofNat_inj, Nat.add_sub_cancel_left, Lx.take1_eq, decide_eq_true_eq, Bool.not_eq_true', decide_eq_false_iff_not, Int.ofNat_lt, Int.ofNat_le, Bool.false_eq_true, if_false, if_true, List.set_cons_zero, List.set_cons_succ, List.append_nil, List.nil_append, ↓reduceIte, Cm.nat_succ, Cm.nat_add, Cm.nat_two, List.toList_toArray, not_true, not_false_iff, Cm.toArr_inj, Cm.two_one, Cm.tyV_str, Cm.scal_ss, Cm.scal_ii, Cm.scal_bb, Cm.cb_K, reduceCtorEq, false_and, exists_false, or_false, false_or, List.map_cons, List.map_nil, rIxT, C8.tCut]
    refine ⟨fun σ G => σ = [some (V.ref l), some (V.ref a)] ∧ Same H G ∧ openF wi w.kind w.text = if w.kind = kSign ∧ w.text = [41] then wi.dropLast else wi, ?_, ?_⟩
    · refine ⟨_, hA (Same.refl H), S w.kind, rfl, rfl, ?_⟩
      by_cases c1 : w.kind = kSign
      · refine ifT (sv_inj.mpr c1) ?_
        refine ⟨_, hA (Same.refl H), S w.text, rfl, by decide, fun p np => in_tup [[35, 40], [40]] ⟨_, rfl, ?_⟩⟩
        have sp : Same H (upd H p (.tup (([[35, 40], [40]] : List (List Nat)).map S))) := same_new np
        by_cases c2 : w.text ∈ [[35, 40], [40]]
        · refine ifT (decide_eq_true c2) ?_
          have eo : openF wi w.kind w.text = wi ++ [decide (w.text = [35, 40]) || decide (wi.getLast? = some true)] := if_pos ⟨c1, c2⟩
          refine ⟨_, hA sp, S w.text, rfl, rfl, ?_⟩
          by_cases c3 : w.text = [35, 40]
          · refine ifT (sv_inj.mpr c3) ?_
            refine cat _ true sp ?_
            rw [eo, decide_eq_true c3, Bool.true_or]
          · refine ifF (fun z => c3 (sv_inj.mp z)) ?_
            refine ⟨l, _, rfl, sqL (hL sp), fun q nq => ⟨show 1 ≤ sizeLine by decide, fun r nr => ?_⟩⟩
            have sq := sp.trans (same_new nq (o := .lst (cutV (wi.map V.bl) (some (-1)) none)))
            have sr := sq.trans (same_new nr (o := .lst [V.bl true]))
            refine ⟨q, r, _, _, rfl, rfl, sqL (same_new nr _ _ upd_same), sqL upd_same, flat_last wi, ?_⟩
            rw [eq_true_last]
            refine cat _ _ sr ?_
            rw [eo, decide_eq_false c3, Bool.false_or]
        · refine ifF (by rw [decide_eq_false c2]; decide) ?_
          exact ⟨rfl, sp, if_neg (fun z => c2 z.2)⟩
      · refine ifF (fun z => c1 (sv_inj.mp z)) ?_
        exact ⟨rfl, Same.refl H, if_neg (fun z => c1 z.1)⟩
    rintro σ G ⟨rfl, sG, eG⟩
    refine ⟨fun σ G => σ = [some (V.ref l), some (V.ref a)] ∧ Same H G ∧ openF wi w.kind w.text = wi, ?_, ?_⟩
    · simp only [L2.tSeq, L2.tRet, L2.tVar, L2.tAnd, L2.tOr, L2.tNot, L2.tTest, L2.tOp, L2.tUn, L2.rU, L2.tCB, L2.tCons, L2.tNil, L2.rIxS, L2.rI0, L2.rI, L2.rEq, L2.rNe, L2.tAug, L2.ipI, L2.tC, L2.tIfS, L2.tIf, L2.tCall, L2.tAsg, L2.gName, L2.tSl, L2.rSlS, L2.tPart, L2.tNoPart, L2.tBM, L2.tBM0, L2.tB, L2.tAndV, L2.tOrV, L2.tNotV, L2.tDrop, L2.tNext, L2.tChain, L2.tPar, L2.tPar3, Cm.tErr, Cm.tGT, L2.tTup, L2.tLst,
  List.getElem?_cons_zero, List.getElem?_cons_succ, Option.some.injEq, exists_eq_left', exists_eq_left, exists_eq', exists_eq, exists_and_left, exists_and_right, exists_const, List.cons.injEq, and_true, true_and, L2.V.str.injEq, L2.V.int.injEq, L2.V.bl.injEq, L2.V.ref.injEq, PySem.Str.mk.injEq, Tx.arr1, Tx.str_len, Tx.at_nat, Tx.cut_nat, Tx.find_one,
  and_assoc, Int.ofNat_inj, Nat.add_sub_cancel_left, Lx.take1_eq, decide_eq_true_eq, Bool.not_eq_true', decide_eq_false_iff_not, Int.ofNat_lt, Int.ofNat_le, Bool.false_eq_true, if_false, if_true, List.set_cons_zero, List.set_cons_succ, List.append_nil, List.nil_append, ↓reduceIte, Cm.nat_succ, Cm.nat_add, Cm.nat_two, List.toList_toArray, not_true, not_false_iff, Cm.toArr_inj, Cm.two_one, Cm.tyV_str, Cm.scal_ss, Cm.scal_ii, Cm.scal_bb, Cm.cb_K, reduceCtorEq, false_and, exists_false, or_false, false_or, List.map_cons, List.map_nil]
      refine ⟨_, hA sG, S w.kind, rfl, rfl, ?_⟩
      by_cases c1 : w.kind = kSign
      · refine ifT (sv_inj.mpr c1) ?_
        refine ⟨_, hA sG, S w.text, rfl, rfl, ?_⟩
        by_cases c2 : w.text = [41]
        · refine ifT (sv_inj.mpr c2) ?_
          refine ⟨l, _, rfl, sqL (hL sG), fun q nq => kk q _ (sG.trans (same_new nq)) ?_⟩
          rw [upd_same, eG, if_pos ⟨c1, c2⟩, cut_init]
        · refine ifF (fun z => c2 (sv_inj.mp z)) ?_
          exact ⟨sG, by rw [eG]; exact if_neg (fun z => c2 z.2)⟩
      · refine ifF (fun z => c1 (sv_inj.mp z)) ?_
        exact ⟨sG, by rw [eG]; exact if_neg (fun z => c1 z.1)⟩
    rintro σ G ⟨rfl, sG, eG⟩
    exact ⟨_, rfl, kk l G sG (by rw [eG]; exact hL sG)⟩
theorem ok__law_negative (M : Mp K mg) : Ok P w K mg base 1 "_law_negative" ["_law_open_signs", "_law_word"] spNegative := by
  refine mk M.a__law_negative sc__law_negative (fun _ _ _ _ _ _ us hl => match us, hl with | [_, _], _ => rfl) (fun vs H Q E h => ?_) (fun f cdv A outer s H vs Q E hr h => ?_)
  · obtain ⟨l, wi, v, last, rfl, _⟩ := h
    rfl
  · obtain ⟨l, wi, v, last, rfl, hl, hv, kk⟩ := h
    refine ⟨_, (pss_cons (ps_if (PW.pt (pw_or (pt_cmpR op_isN (pv 1) pe_non (nomark _)) (pw_or1 (pt_cmpR (op_eqF hr.units0) (pe_slice sl_list (pv 0) (po_some (pe_un un_neg pe_int)) po_none) (pe_lst (pa_cons pe_bl pa_nil)) (nomark _))))) (pss_one (ps_ret pe_bl)) pss_nil)
      (pss_one (ps_ret (pe_and (pe_cmpR op_notIn_seq (pe_ix ix_tup (pv 1) pe_int (fun _ _ => rfl)) (pe_tup (pa_cons (pe_strL [110, 97, 109, 101]) (pa_cons (pe_strL [105, 110, 116]) (pa_cons (pe_strL [115, 116, 114]) (pa_cons (pe_strL [115, 121, 109]) pa_nil))))) (by rfl)) (pe_one (pe_cmpR op_notIn_seq (pe_ix ix_tup (pv 1) pe_int (fun _ _ => rfl)) (pe_tup (pa_cons (pe_strL [41]) (pa_cons (pe_strL [93]) pa_nil))) (by rfl))))))), ?_⟩
    show tSeq _ _ _ [some (.ref l), some v] H
    simp only [L2.tSeq, L2.tRet, L2.tVar, L2.tAnd, L2.tOr, L2.tNot, L2.tTest, L2.tOp, L2.tUn, L2.rU, L2.tCB, L2.tCons, L2.tNil, L2.rIxS, L2.rI0, L2.rI, L2.rEq, L2.rNe, L2.tAug, L2.ipI, L2.tC, L2.tIfS, L2.tIf, L2.tCall, L2.tAsg, L2.gName, L2.tSl, L2.rSlS, L2.tPart, L2.tNoPart, L2.tBM, L2.tBM0, L2.tB, L2.tAndV, L2.tOrV, L2.tNotV, L2.tDrop, L2.tNext, L2.tChain, L2.tPar, L2.tPar3, Cm.tErr, Cm.tGT, L2.tTup, L2.tLst,
  List.getElem?_cons_zero, List.getElem?_cons_succ, Option.some.injEq, exists_eq_left', exists_eq_left, exists_eq', exists_eq, exists_and_left, exists_and_right, exists_const, List.cons.injEq, and_true, true_and, L2.V.str.injEq, L2.V.int.injEq, L2.V.bl.injEq, L2.V.ref.injEq, PySem.Str.mk.injEq, Tx.arr1, Tx.str_len, Tx.at_nat, Tx.cut_nat, Tx.find_one,
  and_assoc, Int.ofNat_inj, Nat.add_sub_cancel_left, Lx.take1_eq, decide_eq_true_eq, Bool.not_eq_true', decide_eq_false_iff_not, Int.ofNat_lt, Int.ofNat_le, Bool.false_eq_true, if_false, if_true, List.set_cons_zero, List.set_cons_succ, List.append_nil, List.nil_append, ↓reduceIte, Cm.nat_succ, Cm.nat_add, Cm.nat_two, List.toList_toArray, not_true, not_false_iff, Cm.toArr_inj, Cm.two_one, Cm.tyV_str, Cm.scal_ss, Cm.scal_ii, Cm.scal_bb, Cm.cb_K, reduceCtorEq, false_and, exists_false, or_false, false_or, List.map_cons, List.map_nil, rIxT, C8.tCut]
    cases last with
    | none =>
      refine ifT hv ?_
      exact kk H (Same.refl H)
    | some w =>
      obtain ⟨a, rfl, ha, hw⟩ := hv
      have hA : ∀ {G : Hp}, Same H G → SqT K G a [S w.kind, w.val, S w.text] := fun s => sqT (s _ _ ha)
      refine ifF (by simp) ?_
      refine ⟨l, _, rfl, sqL hl, fun q nq => ⟨show 1 ≤ sizeLine by decide, fun r nr => ?_⟩⟩
      have sq : Same H (upd H q (.lst (cutV (wi.map V.bl) (some (-1)) none))) := same_new nq
      have sr := sq.trans (same_new nr (o := .lst [V.bl true]))
      refine ⟨q, r, _, _, rfl, rfl, sqL (same_new nr _ _ upd_same), sqL upd_same, flat_last wi, _, rfl, ?_⟩
      rw [eq_true_last]
      by_cases c1 : wi.getLast? = some true
      · refine ifT (decide_eq_true c1) ?_
        have kq := kk _ sr
        rw [show negB wi (some w) = true from if_pos c1] at kq
        exact kq
      · refine ifF (by rw [decide_eq_false c1]; decide) ?_
        have en : negB wi (some w) = (!decide (w.kind ∈ kENDS) && !decide (w.text ∈ kCLOSING)) := if_neg c1
        refine ⟨a, rfl, _, hA sr, S w.kind, rfl, by decide, fun p np => ⟨p, kENDS.map S, rfl, .inr (sqT upd_same), rfl, rfl, _, rfl, ?_⟩⟩
        have sp := sr.trans (same_new np (o := .tup (kENDS.map S)))
        rw [if_pos rfl, inV_S]
        by_cases c2 : w.kind ∈ kENDS
        · refine ifF (by rw [decide_eq_true c2]; decide) ?_
          have kq := kk _ sp
          rw [en, decide_eq_true c2] at kq
          exact kq
        · refine ifT (by rw [decide_eq_false c2]; rfl) ?_
          refine ⟨a, rfl, _, hA sp, S w.text, rfl, by decide, fun p2 np2 => ⟨p2, kCLOSING.map S, rfl, .inr (sqT upd_same), rfl, rfl, ?_⟩⟩
          rw [if_pos rfl, inV_S]
          have kq := kk _ (sp.trans (same_new np2 (o := .tup (kCLOSING.map S))))
          rw [en, decide_eq_false c2] at kq
          exact kq
end
end W
namespace W
open PySem PySem.Spec PyProof.Rows L2 Cm Lx
/-! ### texts at which no word begins -/
theorem bad_of {c : Nat} {q : List Nat} (h1 : c ≠ 32 ∧ c ≠ 10 ∧ c ≠ 34) (h2 : ∀ b, wordAt (c :: q) b = none) (h3 : ∀ x ∈ c :: q, okc x = true) (h4 : (c :: q).length ≤ 130) : Bad (c :: q) 0 :=
  ⟨fun p ws wi => by
    rw [lexR_cons, if_neg (fun z => z.elim h1.1 h1.2.1), if_neg h1.2.2, h2]
    rfl, h3, h4⟩
def noneB (t : List Nat) : Bool := (match t with
  | [] => false
  | c :: _ => decide (c ≠ 32) && (decide (c ≠ 10) && decide (c ≠ 34))) && ((wordAt t true).isNone && ((wordAt t false).isNone && (t.all okc && decide (t.length ≤ 130))))
theorem noneB_ok {t : List Nat} (h : noneB t = true) : Bad t 0 := by
  cases t with
  | nil => cases h
  | cons c q =>
    unfold noneB at h
    simp only [Bool.and_eq_true, decide_eq_true_eq, Option.isNone_iff_eq_none] at h
    obtain ⟨⟨a1, a2, a3⟩, b1, b2, b3, b4⟩ := h
    exact bad_of ⟨a1, a2, a3⟩ (fun b => by cases b; exact b2; exact b1) (List.all_eq_true.mp b3) b4
def bad0 : List (List Nat) := [[], [58], [120, 57]].map fun x => [97] ++ (List.replicate 20 [98, 49]).flatten ++ x
def bad1 : List (List Nat) := (List.range 9).map fun n => (List.replicate (61 + n) [55]).flatten
def bad6 : List (List Nat) := [[], [58], [55], [124], (List.replicate 41 [122]).flatten, (List.replicate 41 [122]).flatten ++ [58], [94], [35, 97], [91], [33]].map fun x => 35 :: x
def bad7 : List (List Nat) := [[47], [92], [126], [33], [36], [38], [63], [64], [95], [96], [123], [125], [47, 32, 47], [126, 45, 49]]
theorem bads : ∀ t ∈ bad0 ++ bad1 ++ bad6 ++ bad7, noneB t = true := by decide +kernel
theorem bad_in {t : List Nat} (h : t ∈ bad0 ++ bad1 ++ bad6 ++ bad7) : Bad t 0 := noneB_ok (bads t h)
def zeros : List Nat := List.replicate 61 48
theorem bad_minus : Bad (45 :: zeros) 1 := by
  have z0 : Bad zeros 0 := noneB_ok (by decide +kernel)
  have w1 : ∀ b, wordAt (45 :: zeros) b = some (kOp, Sv [45], 1) := by
    intro b
    cases b <;> decide +kernel
  refine ⟨fun p ws wi => ?_, by decide, by decide⟩
  rw [lexR_cons, if_neg (by decide), if_neg (by decide), w1]
  exact z0.er (p + 1) _ _
theorem bad_str {t : List Nat} (h : t.all okc = true) (hl : t.length ≤ 8) : Bad (39 :: (esc t ++ [39, 39])) 0 := by
  have hw := wd_okc (w := .str t) ⟨h, hl⟩
  have el := esc_len t
  refine bad_of (by decide) (fun b => ?_) (fun x hx => ?_) ?_
  · have hh : (39 :: (esc t ++ [39, 39])).headD 0 = 39 := rfl
    rw [wordAt_eq, hh, if_neg (show ¬ 39 ∈ kLETTERS by decide), if_pos rfl]
    unfold strWord strLen
    rw [List.drop_succ_cons, List.drop_zero, tick_none (e := [39, 39]) rfl]
    rfl
  · refine hw x ?_
    simp only [Wd.text, List.mem_cons, List.mem_append, List.not_mem_nil, or_false] at hx ⊢
    rcases hx with hx | hx | hx | hx
    · exact .inl hx
    · exact .inr (.inl hx)
    · exact .inr (.inr hx)
    · exact .inr (.inr hx)
  · simp only [List.length_cons, List.length_append, List.length_nil]
    omega
theorem bad_sym {t : List Nat} (h : t.all okc = true) (hl : t.length ≤ 8) : Bad (35 :: 39 :: esc t) 0 := by
  have hw := wd_okc (w := .symS t) ⟨h, hl⟩
  have el := esc_len t
  refine bad_of (by decide) (fun b => ?_) (fun x hx => ?_) ?_
  · rw [step_sym]
    unfold symWord symLen
    rw [if_pos (show (35 :: 39 :: esc t)[1]? = some 39 from rfl), List.drop_succ_cons, List.drop_zero]
    unfold strLen
    rw [List.drop_succ_cons, List.drop_zero]
    have := tick_none (e := []) rfl t
    rw [List.append_nil] at this
    rw [this]
    rfl
  · refine hw x ?_
    simp only [Wd.text, List.mem_cons, List.mem_append] at hx ⊢
    rcases hx with hx | hx | hx
    · exact .inl hx
    · exact .inr (.inl hx)
    · exact .inr (.inr (.inl hx))
  · simp only [List.length_cons]
    omega
def put (a z : Nat) (t : List Nat) : List Nat := t.map fun c => if c = a then z else c
theorem put_not {a z : Nat} {t : List Nat} (h : z ≠ a) : ∀ c ∈ put a z t, c ≠ a := fun c hc => by
  obtain ⟨x, hx, rfl⟩ := List.mem_map.mp hc
  split
  · exact h
  · assumption
theorem put_okc {a z : Nat} {t : List Nat} (hz : okc z = true) (h : t.all okc = true) : ∀ c ∈ put a z t, okc c = true := fun c hc => by
  obtain ⟨x, hx, rfl⟩ := List.mem_map.mp hc
  split
  · exact hz
  · exact okc_mem h x hx
theorem bad_note {t : List Nat} (h : t.all okc = true) (hl : t.length ≤ 8) : Bad (34 :: put 34 32 t) 0 := by
  refine ⟨fun p ws wi => ?_, fun x hx => ?_, ?_⟩
  · have e : commentLen (34 :: put 34 32 t) = none := by
      unfold commentLen
      rw [List.drop_succ_cons, List.drop_zero, List.findIdx?_eq_none_iff.mpr fun c hc => by simpa using put_not (by decide) c hc]
      rfl
    rw [lexR_cons, if_neg (by decide), if_pos rfl, e]
    rfl
  · rcases List.mem_cons.mp hx with rfl | hx
    · decide
    · exact put_okc (by decide) h x hx
  · simp only [List.length_cons, put, List.length_map]
    omega
/-! ### gaps -/
theorem gp_note {x : List Nat} (h1 : ∀ c ∈ x, c ≠ 34) (h2 : ∀ c ∈ x, okc c = true) (h3 : x.length ≤ 125) : Gp (34 :: (x ++ [34])) := by
  refine ⟨skips_note h1, .inr (by show 34 ∈ _; decide), fun c hc => ?_, by simp only [List.length_cons, List.length_append, List.length_nil]; omega⟩
  simp only [List.mem_cons, List.mem_append, List.not_mem_nil, or_false] at hc
  rcases hc with rfl | hc | rfl
  · decide
  · exact h2 c hc
  · decide
def gapsT : List (List Nat) := [[32], [10], [32, 32], [34, 34], [32, 34, 105, 116, 39, 115, 32, 35, 40, 34, 32], [34, 45, 34, 10], [34, 120, 10, 121, 34]]
theorem gp_fix : ∀ g ∈ gapsT, Gp g := by
  intro g hg
  have ok : ∀ g ∈ gapsT, (g = [] ∨ g.headD 0 ∈ [32, 10, 34]) ∧ (∀ c ∈ g, okc c = true) ∧ g.length ≤ 130 := by decide
  obtain ⟨h1, h2, h3⟩ := ok g hg
  refine ⟨?_, h1, h2, h3⟩
  have b : Skips [32] := skips_blank (.inl rfl)
  have n : Skips [10] := skips_blank (.inr rfl)
  simp only [gapsT, List.mem_cons, List.not_mem_nil, or_false] at hg
  rcases hg with rfl | rfl | rfl | rfl | rfl | rfl | rfl
  · exact b
  · exact n
  · exact b.app b
  · exact skips_note (b := []) (by decide)
  · exact b.app ((skips_note (b := [105, 116, 39, 115, 32, 35, 40]) (by decide)).app b)
  · exact (skips_note (b := [45]) (by decide)).app n
  · exact skips_note (b := [120, 10, 121]) (by decide)
theorem gp_nil : Gp [] := ⟨skips_nil, .inl rfl, (fun c hc => by cases hc), by decide⟩
theorem rep_mem {n : Nat} {x : List Nat} {c : Nat} (h : c ∈ (List.replicate n x).flatten) : c ∈ x := by
  obtain ⟨l, hl, hc⟩ := List.mem_flatten.mp h
  rw [(List.mem_replicate.mp hl).2] at hc
  exact hc
theorem rep_len (n : Nat) (x : List Nat) : (List.replicate n x).flatten.length = n * x.length := by
  induction n with
  | zero => simp
  | succ n ih =>
    rw [List.replicate_succ, List.flatten_cons, List.length_append, ih, Nat.succ_mul, Nat.add_comm]
end W
namespace W
open PySem PySem.Spec PyProof.Rows L2 Cm Lx
abbrev s__law_gap : Stmt := topS 49
theorem sc__law_gap : FnScope ["_law_bag_here", "_law_parted", "_law_gaps"] ["_law_bag_here", "_law_parted"] (defScope s__law_gap) := ⟨rfl, rfl, rfl, by decide +kernel, rfl, by decide +kernel, by decide +kernel⟩
abbrev s__law_bad : Stmt := topS 50
theorem sc__law_bad : FnScope ["_law_bag_here", "_law_way"] ["_law_bag_here"] (defScope s__law_bad) := ⟨rfl, rfl, rfl, by decide +kernel, rfl, by decide +kernel, by decide +kernel⟩
abbrev s__law_told : Stmt := topS 51
theorem sc__law_told : FnScope ["_law_source", "_law_found", "_law_place", "e"] ["_law_source"] (defScope s__law_told) := ⟨rfl, rfl, rfl, by decide +kernel, rfl, by decide +kernel, by decide +kernel⟩
structure Mg (P : Program) (w : World) (K : PySem.W.Frag) (mg : Str → Option Value) (base : Heap) (CB : Addr) : Prop where
  mb : Mb K mg
  mn : Mn K mg
  md : Md P w K mg base CB
  a__law_gap : At K mg "_law_gap" s__law_gap
  a__law_bad : At K mg "_law_bad" s__law_bad
  a__law_told : At K mg "_law_told" s__law_told
def spGap : Sp := fun vs H Q _ => ∃ (p : Addr) (m : Int) (parted : Bool), vs = [.ref p, .bl parted] ∧ Bag m H p ∧ m + 40 < 10 ^ 9 ∧ ∀ g H', But p H H' → Bag (m + 40) H' p → Gp g → (parted = true → g ≠ []) → Q (S g) H'
def spBad : Sp := fun vs H Q _ => ∃ (p : Addr) (m : Int), vs = [.ref p] ∧ Bag m H p ∧ m + 40 < 10 ^ 9 ∧ ∀ (a : Addr) (b : List Nat) (q : Nat) H', But p H H' → Bag (m + 40) H' p → Bad b q → H' a = some (.tup [S b, .int (q : Nat)]) → Q (.ref a) H'
def kRead : List Nat := [114, 101, 97, 100]
def ToldAt (H : Hp) (a : Addr) : Except Int Toks → Prop
  | .ok ws => ∃ l, H a = some (.tup [.ref l, S kRead]) ∧ H l ≠ none ∧ ToksAt H l ws
  | .error p => H a = some (.tup [.non, .int p])
def spTold : Sp := fun vs H Q _ => ∃ t, vs = [S t] ∧ BT t ∧ ∀ a H', Same H H' → H a = none → (∀ ws, wordsOf t = .ok ws → ∃ l, H l = none ∧ H' a = some (.tup [.ref l, S kRead]) ∧ ToksAt H' l ws) → (∀ q, wordsOf t = .error q → H' a = some (.tup [.non, .int q])) → Q (.ref a) H'
section
variable {P : Program} {w : World} {K : PySem.W.Frag} {mg : Str → Option Value} {base : Heap} {CB : Addr}
theorem toks_same {H H' : Hp} {l : Addr} {ws : Toks} (s : Same H H') (h : ToksAt H l ws) : ToksAt H' l ws := by
  obtain ⟨ps, h1, h2⟩ := h
  exact ⟨ps, s _ _ h1, Cm.Paired.imp (fun _ _ t => ⟨s _ _ t.1, t.2⟩) h2⟩
theorem ok__law_gap (M : Mg P w K mg base CB) : Ok P w K mg base 4 "_law_gap" ["_law_bag_here", "_law_parted"] spGap := by
  refine mkT M.a__law_gap sc__law_gap (by decide +kernel) (by decide) (fun _ _ _ _ _ _ us hl => match us, hl with | [_, _], _ => rfl) (fun vs H Q E h => ?_) (fun f cdv A outer s H vs Q E hr h => ?_)
  · obtain ⟨p, m, pt, rfl, _⟩ := h
    rfl
  · obtain ⟨p, m, pt, rfl, hb, hm, kk⟩ := h
    refine ⟨_, (psst_cons (CwR.pst_if (pt_cmpR op_eq (pc (ok_tk M.mb) (hr.mono (by decide)) (by rfl) psb (pa_cons (pv 0) (pa_cons pe_int pa_nil))) pe_int (nomark _)) (CwR.psst_one (CwR.pst_ret (CwR.pet_op op_add_str (CwR.pet_op op_add_str (CwR.PET.of (pe_strL [34])) (CwR.pet_op op_mulS (CwR.pet_replC (y := ⟨#[34]⟩) (z := ⟨#[10]⟩) (pc (ok__law_text M.mn) (hr.mono (by decide)) (by rfl) psb (pa_cons (pv 0) pa_nil)) (by decide +kernel)) (CwR.PET.of (pc (ok_pk M.mb) (hr.mono (by decide)) (by rfl) psb (pa_cons (pv 0) (pa_cons (pe_lst (pa_cons pe_int (pa_cons pe_int (pa_cons pe_int (pa_cons pe_int pa_nil))))) pa_nil)))))) (CwR.PET.of (pe_strL [34]))))) (PSsT.of pss_nil))
      (psst_cons (PST.of (ps_asg (pe_lst (pa_cons (pe_strL [32]) (pa_cons (pe_strL [10]) (pa_cons (pe_strL [32, 32]) (pa_cons (pe_strL [34, 34]) (pa_cons (pe_strL [32, 34, 105, 116, 39, 115, 32, 35, 40, 34, 32]) (pa_cons (pe_strL [34, 45, 34, 10]) (pa_cons (pe_strL [34, 120, 10, 121, 34]) pa_nil)))))))) (pg_name (i := 2) sc__law_gap.nd rfl (.inl rfl))))
      (psst_cons (PST.of (ps_if (pt_not (pt_val (pv 1))) (pss_one (ps_asg (pe_op op_cat (pv 2) (pe_lst (pa_cons (pe_strL []) (pa_cons (pe_strL []) (pa_cons (pe_strL []) (pa_cons (pe_strL []) (pa_cons (pe_strL []) (pa_cons (pe_strL []) pa_nil)))))))) (pg_name (i := 2) sc__law_gap.nd rfl (.inl rfl)))) pss_nil))
      (CwR.psst_one (PST.of (ps_ret (pc (ok_pk M.mb) (hr.mono (by decide)) (by rfl) psb (pa_cons (pv 0) (pa_cons (pv 2) pa_nil))))))))), ?_⟩
    show tSeq _ _ _ [some (.ref p), some (.bl pt), none] H
    simp only [L2.tSeq, L2.tRet, L2.tVar, L2.tAnd, L2.tOr, L2.tNot, L2.tTest, L2.tOp, L2.tUn, L2.rU, L2.tCB, L2.tCons, L2.tNil, L2.rIxS, L2.rI0, L2.rI, L2.rEq, L2.rNe, L2.tAug, L2.ipI, L2.tC, L2.tIfS, L2.tIf, L2.tCall, L2.tAsg, L2.gName, L2.tSl, L2.rSlS, L2.tPart, L2.tNoPart, L2.tBM, L2.tBM0, L2.tB, L2.tAndV, L2.tOrV, L2.tNotV, L2.tDrop, L2.tNext, L2.tChain, L2.tPar, L2.tPar3, Cm.tErr, Cm.tGT, L2.tTup, L2.tLst,
  List.getElem?_cons_zero, List.getElem?_cons_succ, Option.some.injEq, exists_eq_left', exists_eq_left, exists_eq', exists_eq, exists_and_left, exists_and_right, exists_const, List.cons.injEq, and_true, true_and, L2.V.str.injEq, L2.V.int.injEq, L2.V.bl.injEq, L2.V.ref.injEq, PySem.Str.mk.injEq, Tx.arr1, Tx.str_len, Tx.at_nat, Tx.cut_nat, Tx.find_one,
  and_assoc, Int.ofNat_inj, Nat.add_sub_cancel_left, Lx.take1_eq, decide_eq_true_eq, Bool.not_eq_true', decide_eq_false_iff_not, Int.ofNat_lt, Int.ofNat_le, Bool.false_eq_true, if_false, if_true, List.set_cons_zero, List.set_cons_succ, List.append_nil, List.nil_append, ↓reduceIte, Cm.nat_succ, Cm.nat_add, Cm.nat_two, List.toList_toArray, not_true, not_false_iff, Cm.toArr_inj, Cm.two_one, Cm.tyV_str, Cm.scal_ss, Cm.scal_ii, Cm.scal_bb, Cm.cb_K, reduceCtorEq, false_and, exists_false, or_false, false_or, List.map_cons, List.map_nil, CwR.tReplC]
    refine ⟨p, m, 8, rfl, hb, by omega, by decide, by decide, fun j H1 b1 hb1 hj => ⟨rfl, ?_⟩⟩
    split
    · refine ⟨p, _, rfl, hb1, by omega, fun t H2 b2 hb2 t1 t2 => ?_⟩
      refine ⟨_, rfl, by rw [Tx.str_len]; show t.length + (t.length + 1) * 1 ≤ _; omega, show 4 ≤ sizeLine by decide, fun q1 n1 => ⟨p, q1, _, _, rfl, hb2.same (same_new n1), by omega, sqL upd_same, hb2.np n1, by decide, by decide, fun y H3 b3 hb3 hy => ?_⟩⟩
      have hy' : y ∈ ([1, 1, 2, 15] : List Nat).map (fun k : Nat => V.int (k : Int)) := hy
      obtain ⟨n, hn, rfl⟩ := List.mem_map.mp hy'
      have hn' : n ≤ 15 := (show ∀ k ∈ ([1, 1, 2, 15] : List Nat), k ≤ 15 by decide) n hn
      have e := Tx.repl_list t [34] [10] (by decide)
      rw [repl_one] at e
      have pl : (put 34 10 t).length ≤ 8 := by unfold put; rw [List.length_map]; exact t2
      have fl : (List.replicate n (put 34 10 t)).flatten.length ≤ 120 := by
        rw [rep_len]
        exact Nat.mul_le_mul hn' pl
      have e1 := str_app [34] (List.replicate n (put 34 10 t)).flatten
      have e2 := str_app ([34] ++ (List.replicate n (put 34 10 t)).flatten) [34]
      have l1 : (put 34 10 t).length * n ≤ 100000 := Nat.le_trans (Nat.mul_le_mul pl hn') (by decide)
      refine ⟨put 34 10 t, e, n, rfl, l1, by omega, szl (by simp only [List.length_cons, List.length_nil]; omega), ?_, ?_⟩
      · rw [e1, Tx.str_len]
        exact szl (by simp only [List.length_cons, List.length_nil, List.length_append]; omega)
      · rw [e1, e2]
        refine kk _ H3 (((b1.trans b2).trans (Cm.Same.but (same_new n1))).trans b3) (hb3.mono (by omega)) (gp_note (x := (List.replicate n (put 34 10 t)).flatten) (fun c hc => put_not (by decide) c (rep_mem hc)) (fun c hc => put_okc (by decide) t1 c (rep_mem hc)) (by omega)) (fun _ => by simp)
    · refine ⟨show 7 ≤ sizeLine by decide, fun q1 n1 => ?_⟩
      have s1 : Same H1 (upd H1 q1 (HO.lst (gapsT.map S))) := same_new n1
      have hq1 : upd H1 q1 (HO.lst (gapsT.map S)) q1 = some (HO.lst (gapsT.map S)) := upd_same
      cases pt with
      | true =>
        refine ifF (by decide) ?_
        refine ⟨p, q1, _, _, rfl, hb1.same s1, by omega, sqL hq1, hb1.np n1, by decide, by decide, fun y H3 b3 hb3 hy => ?_⟩
        obtain ⟨g, hg, rfl⟩ := List.mem_map.mp hy
        exact kk g H3 ((b1.trans (Cm.Same.but s1)).trans b3) (hb3.mono (by omega)) (gp_fix g hg) (fun _ => (show ∀ g ∈ gapsT, g ≠ [] by decide) g hg)
      | false =>
        refine ifT rfl ?_
        refine ⟨show 6 ≤ sizeLine by decide, fun q2 n2 => ?_⟩
        have s2 := s1.trans (same_new n2 (o := HO.lst (List.replicate 6 (S []))))
        refine ⟨q1, q2, gapsT.map S, List.replicate 6 (S []), rfl, rfl, same_new n2 _ _ hq1, upd_same, by decide, fun q3 n3 => ?_⟩
        have s3 := s2.trans (same_new n3 (o := HO.lst (gapsT.map S ++ List.replicate 6 (S []))))
        refine ⟨p, q3, _, _, rfl, hb1.same s3, by omega, sqL upd_same, (hb1.same s2).np n3, by decide, by decide, fun y H3 b3 hb3 hy => ?_⟩
        rcases List.mem_append.mp hy with hy | hy
        · obtain ⟨g, hg, rfl⟩ := List.mem_map.mp hy
          exact kk g H3 ((b1.trans (Cm.Same.but s3)).trans b3) (hb3.mono (by omega)) (gp_fix g hg) (fun z => by cases z)
        · rw [(List.mem_replicate.mp hy).2]
          exact kk [] H3 ((b1.trans (Cm.Same.but s3)).trans b3) (hb3.mono (by omega)) gp_nil (fun z => by cases z)
theorem ok__law_bad (M : Mg P w K mg base CB) : Ok P w K mg base 4 "_law_bad" ["_law_bag_here"] spBad := by
  refine mkT M.a__law_bad sc__law_bad (by decide +kernel) (by decide) (fun _ _ _ _ _ _ us hl => match us, hl with | [_], _ => rfl) (fun vs H Q E h => ?_) (fun f cdv A outer s H vs Q E hr h => ?_)
  · obtain ⟨p, m, rfl, _⟩ := h
    rfl
  · obtain ⟨p, m, rfl, hb, hm, kk⟩ := h
    refine ⟨_, (psst_cons (PST.of (ps_asg (pc (ok_tk M.mb) (hr.mono (by decide)) (by rfl) psb (pa_cons (pv 0) (pa_cons pe_int pa_nil))) (pg_name (i := 1) sc__law_bad.nd rfl (.inl rfl))))
      (psst_cons (PST.of (ps_if (pt_cmpR op_eq (pv 1) pe_int (nomark _)) (pss_one (ps_ret (pe_tup (pa_cons (pe_op op_add_str (pe_op op_add_str (pe_strL [97]) (pe_op op_mulS (pe_strL [98, 49]) pe_int)) (pc (ok_pk M.mb) (hr.mono (by decide)) (by rfl) psb (pa_cons (pv 0) (pa_cons (pe_lst (pa_cons (pe_strL []) (pa_cons (pe_strL [58]) (pa_cons (pe_strL [120, 57]) pa_nil)))) pa_nil)))) (pa_cons pe_int pa_nil))))) pss_nil))
      (psst_cons (PST.of (ps_if (pt_cmpR op_eq (pv 1) pe_int (nomark _)) (pss_one (ps_ret (pe_tup (pa_cons (pe_op op_mulS (pe_strL [55]) (pe_op op_add pe_int (pc (ok_tk M.mb) (hr.mono (by decide)) (by rfl) psb (pa_cons (pv 0) (pa_cons pe_int pa_nil))))) (pa_cons pe_int pa_nil))))) pss_nil))
      (psst_cons (PST.of (ps_if (pt_cmpR op_eq (pv 1) pe_int (nomark _)) (pss_one (ps_ret (pe_tup (pa_cons (pe_op op_add_str (pe_strL [45]) (pe_op op_mulS (pe_strL [48]) pe_int)) (pa_cons pe_int pa_nil))))) pss_nil))
      (psst_cons (CwR.pst_if (pt_cmpR op_eq (pv 1) pe_int (nomark _)) (CwR.psst_one (CwR.pst_ret (Cm.pet_tup (pat_cons (CwR.pet_op op_add_str (CwR.pet_op op_add_str (CwR.PET.of (pe_strL [39])) (CwR.pet_replC (y := ⟨#[39]⟩) (z := ⟨#[39, 39]⟩) (pc (ok__law_text M.mn) (hr.mono (by decide)) (by rfl) psb (pa_cons (pv 0) pa_nil)) (by decide +kernel))) (CwR.PET.of (pe_strL [39, 39]))) (pat_cons (CwR.PET.of pe_int) pat_nil))))) (PSsT.of pss_nil))
      (psst_cons (CwR.pst_if (pt_cmpR op_eq (pv 1) pe_int (nomark _)) (CwR.psst_one (CwR.pst_ret (Cm.pet_tup (pat_cons (CwR.pet_op op_add_str (CwR.PET.of (pe_strL [34])) (CwR.pet_replC (y := ⟨#[34]⟩) (z := ⟨#[32]⟩) (pc (ok__law_text M.mn) (hr.mono (by decide)) (by rfl) psb (pa_cons (pv 0) pa_nil)) (by decide +kernel))) (pat_cons (CwR.PET.of pe_int) pat_nil))))) (PSsT.of pss_nil))
      (psst_cons (CwR.pst_if (pt_cmpR op_eq (pv 1) pe_int (nomark _)) (CwR.psst_one (CwR.pst_ret (Cm.pet_tup (pat_cons (CwR.pet_op op_add_str (CwR.PET.of (pe_strL [35, 39])) (CwR.pet_replC (y := ⟨#[39]⟩) (z := ⟨#[39, 39]⟩) (pc (ok__law_text M.mn) (hr.mono (by decide)) (by rfl) psb (pa_cons (pv 0) pa_nil)) (by decide +kernel))) (pat_cons (CwR.PET.of pe_int) pat_nil))))) (PSsT.of pss_nil))
      (psst_cons (PST.of (ps_if (pt_cmpR op_eq (pv 1) pe_int (nomark _)) (pss_one (ps_ret (pe_tup (pa_cons (pe_op op_add_str (pe_strL [35]) (pc (ok_pk M.mb) (hr.mono (by decide)) (by rfl) psb (pa_cons (pv 0) (pa_cons (pe_lst (pa_cons (pe_strL []) (pa_cons (pe_strL [58]) (pa_cons (pe_strL [55]) (pa_cons (pe_strL [124]) (pa_cons (pe_op op_mulS (pe_strL [122]) pe_int) (pa_cons (pe_op op_add_str (pe_op op_mulS (pe_strL [122]) pe_int) (pe_strL [58])) (pa_cons (pe_strL [94]) (pa_cons (pe_strL [35, 97]) (pa_cons (pe_strL [91]) (pa_cons (pe_strL [33]) pa_nil))))))))))) pa_nil)))) (pa_cons pe_int pa_nil))))) pss_nil))
      (CwR.psst_one (PST.of (ps_ret (pe_tup (pa_cons (pc (ok_pk M.mb) (hr.mono (by decide)) (by rfl) psb (pa_cons (pv 0) (pa_cons (pe_lst (pa_cons (pe_strL [47]) (pa_cons (pe_strL [92]) (pa_cons (pe_strL [126]) (pa_cons (pe_strL [33]) (pa_cons (pe_strL [36]) (pa_cons (pe_strL [38]) (pa_cons (pe_strL [63]) (pa_cons (pe_strL [64]) (pa_cons (pe_strL [95]) (pa_cons (pe_strL [96]) (pa_cons (pe_strL [123]) (pa_cons (pe_strL [125]) (pa_cons (pe_strL [47, 32, 47]) (pa_cons (pe_strL [126, 45, 49]) pa_nil))))))))))))))) pa_nil))) (pa_cons pe_int pa_nil)))))))))))))), ?_⟩
    show tSeq _ _ _ [some (.ref p), none] H
    simp only [L2.tSeq, L2.tRet, L2.tVar, L2.tAnd, L2.tOr, L2.tNot, L2.tTest, L2.tOp, L2.tUn, L2.rU, L2.tCB, L2.tCons, L2.tNil, L2.rIxS, L2.rI0, L2.rI, L2.rEq, L2.rNe, L2.tAug, L2.ipI, L2.tC, L2.tIfS, L2.tIf, L2.tCall, L2.tAsg, L2.gName, L2.tSl, L2.rSlS, L2.tPart, L2.tNoPart, L2.tBM, L2.tBM0, L2.tB, L2.tAndV, L2.tOrV, L2.tNotV, L2.tDrop, L2.tNext, L2.tChain, L2.tPar, L2.tPar3, Cm.tErr, Cm.tGT, L2.tTup, L2.tLst,
  List.getElem?_cons_zero, List.getElem?_cons_succ, Option.some.injEq, exists_eq_left', exists_eq_left, exists_eq', exists_eq, exists_and_left, exists_and_right, exists_const, List.cons.injEq, and_true, true_and, L2.V.str.injEq, L2.V.int.injEq, L2.V.bl.injEq, L2.V.ref.injEq, PySem.Str.mk.injEq, Tx.arr1, Tx.str_len, Tx.at_nat, Tx.cut_nat, Tx.find_one,
  and_assoc, Int.ofNat_inj, Nat.add_sub_cancel_left, Lx.take1_eq, decide_eq_true_eq, Bool.not_eq_true', decide_eq_false_iff_not, Int.ofNat_lt, Int.ofNat_le, Bool.false_eq_true, if_false, if_true, List.set_cons_zero, List.set_cons_succ, List.append_nil, List.nil_append, ↓reduceIte, Cm.nat_succ, Cm.nat_add, Cm.nat_two, List.toList_toArray, not_true, not_false_iff, Cm.toArr_inj, Cm.two_one, Cm.tyV_str, Cm.scal_ss, Cm.scal_ii, Cm.scal_bb, Cm.cb_K, reduceCtorEq, false_and, exists_false, or_false, false_or, List.map_cons, List.map_nil, CwR.tReplC]
    refine ⟨p, m, 8, rfl, hb, by omega, by decide, by decide, fun j H1 b1 hb1 hj => ⟨rfl, ?_⟩⟩
    have fin : ∀ (b : List Nat) (q : Nat) (v : V) (u : V) (H2 : Hp), But p H H2 → Bag (m + 40) H2 p → Bad b q → v = S b → u = .int (q : Nat) → [v, u].length ≤ sizeLine ∧ ∀ a, H2 a = none → Q (V.ref a) (upd H2 a (HO.tup [v, u])) := fun b q v u H2 c1 c2 c3 c4 c5 =>
      ⟨show 2 ≤ sizeLine by decide, fun a na => kk a b q _ (c1.trans (Cm.Same.but (same_new na))) (c2.same (same_new na)) c3 (by rw [upd_same, c4, c5])⟩
    have rl : ∀ (n k : Nat) (x : List Nat), n ≤ 100 → x.length ≤ 3 → (List.replicate n x).flatten.length ≤ 300 := fun n k x hn hx => by
      rw [rep_len]
      exact Nat.mul_le_mul hn hx
    split
    · refine ⟨20, rfl, by decide, by decide, by decide, show 3 ≤ sizeLine by decide, fun q1 n1 => ⟨p, q1, _, _, rfl, hb1.same (same_new n1), by omega, sqL upd_same, hb1.np n1, by decide, by decide, fun y H2 b2 hb2 hy => ?_⟩⟩
      have hy' : y ∈ ([[], [58], [120, 57]] : List (List Nat)).map S := hy
      obtain ⟨x, hx, rfl⟩ := List.mem_map.mp hy'
      have hxl : x.length ≤ 3 := (show ∀ x ∈ ([[], [58], [120, 57]] : List (List Nat)), x.length ≤ 3 by decide) x hx
      have e1 := str_app [97] (List.replicate 20 [98, 49]).flatten
      have e2 := str_app ([97] ++ (List.replicate 20 [98, 49]).flatten) x
      refine ⟨_, rfl, by rw [e1, Tx.str_len, Tx.str_len]; exact szl (by have := rl 20 0 [98, 49] (by decide) (by decide); rw [List.length_append]; simp only [List.length_cons, List.length_nil]; omega), ?_⟩
      rw [e1, e2]
      refine fin _ 0 _ _ H2 ((b1.trans (Cm.Same.but (same_new n1))).trans b2) (hb2.mono (by omega)) (bad_in ?_) rfl rfl
      exact List.mem_append_left _ (List.mem_append_left _ (List.mem_append_left _ (List.mem_map.mpr ⟨x, hx, rfl⟩)))
    · refine ⟨rfl, ?_⟩
      split
      · refine ⟨p, _, 9, rfl, hb1, by omega, by decide, by decide, fun n H2 b2 hb2 hn => ?_⟩
        refine ⟨_, rfl, 61 + n, rfl, by simp only [List.length_cons, List.length_nil]; omega, by omega, ?_⟩
        refine fin _ 0 _ _ H2 (b1.trans b2) (hb2.mono (by omega)) (bad_in ?_) rfl rfl
        exact List.mem_append_left _ (List.mem_append_left _ (List.mem_append_right _ (List.mem_map.mpr ⟨n, List.mem_range.mpr (by omega), rfl⟩)))
      · refine ⟨rfl, ?_⟩
        split
        · have e1 := str_app [45] (List.replicate 61 [48]).flatten
          have e2 : (List.replicate 61 [48]).flatten = zeros := by decide
          refine ⟨61, rfl, by decide, by decide, by decide, ?_⟩
          rw [e1, e2]
          exact fin _ 1 _ _ H1 b1 (hb1.mono (by omega)) bad_minus rfl rfl
        · refine ⟨rfl, ?_⟩
          split
          · refine ⟨p, _, rfl, hb1, by omega, fun t H2 b2 hb2 t1 t2 => ?_⟩
            have el := esc_len t
            have e := Tx.repl_list t [39] [39, 39] (by decide)
            rw [esc_repl] at e
            have e1 := str_app [39] (esc t)
            have e2 := str_app ([39] ++ esc t) [39, 39]
            refine ⟨_, rfl, by rw [Tx.str_len]; show t.length + (t.length + 1) * 2 ≤ _; omega, ?_⟩
            rw [e, e1, e2]
            refine ⟨by rw [Tx.str_len]; exact szl (by simp only [List.length_cons, List.length_nil]; omega), by rw [Tx.str_len]; exact szl (by simp only [List.length_append, List.length_cons, List.length_nil]; omega), ?_⟩
            exact fin _ 0 _ _ H2 (b1.trans b2) (hb2.mono (by omega)) (bad_str t1 t2) rfl rfl
          · refine ⟨rfl, ?_⟩
            split
            · refine ⟨p, _, rfl, hb1, by omega, fun t H2 b2 hb2 t1 t2 => ?_⟩
              have e := Tx.repl_list t [34] [32] (by decide)
              rw [repl_one] at e
              have e1 := str_app [34] (put 34 32 t)
              have pl : (put 34 32 t).length ≤ 8 := by unfold put; rw [List.length_map]; exact t2
              refine ⟨_, rfl, by rw [Tx.str_len]; show t.length + (t.length + 1) * 1 ≤ _; omega, ?_⟩
              have e' : Txt.replace ⟨t.toArray⟩ ⟨#[34]⟩ ⟨#[32]⟩ = ⟨(put 34 32 t).toArray⟩ := e
              rw [e', e1]
              refine ⟨by rw [Tx.str_len]; exact szl (by simp only [List.length_cons, List.length_nil]; omega), ?_⟩
              exact fin _ 0 _ _ H2 (b1.trans b2) (hb2.mono (by omega)) (bad_note t1 t2) rfl rfl
            · refine ⟨rfl, ?_⟩
              split
              · refine ⟨p, _, rfl, hb1, by omega, fun t H2 b2 hb2 t1 t2 => ?_⟩
                have el := esc_len t
                have e := Tx.repl_list t [39] [39, 39] (by decide)
                rw [esc_repl] at e
                have e1 := str_app [35, 39] (esc t)
                refine ⟨_, rfl, by rw [Tx.str_len]; show t.length + (t.length + 1) * 2 ≤ _; omega, ?_⟩
                rw [e, e1]
                refine ⟨by rw [Tx.str_len]; exact szl (by simp only [List.length_cons, List.length_nil]; omega), ?_⟩
                exact fin _ 0 _ _ H2 (b1.trans b2) (hb2.mono (by omega)) (bad_sym t1 t2) rfl rfl
              · refine ⟨rfl, ?_⟩
                split
                · have e5 := str_app (List.replicate 41 [122]).flatten [58]
                  refine ⟨41, rfl, by decide, by decide, 41, rfl, by decide, by decide, by decide, show 10 ≤ sizeLine by decide, ?_⟩
                  rw [e5]
                  intro q1 n1
                  refine ⟨p, q1, _, _, rfl, hb1.same (same_new n1), by omega, sqL upd_same, hb1.np n1, by decide, by decide, fun y H2 b2 hb2 hy => ?_⟩
                  have hy' : y ∈ ([[], [58], [55], [124], (List.replicate 41 [122]).flatten, (List.replicate 41 [122]).flatten ++ [58], [94], [35, 97], [91], [33]] : List (List Nat)).map S := hy
                  obtain ⟨x, hx, rfl⟩ := List.mem_map.mp hy'
                  have hxl : x.length ≤ 50 := (show ∀ x ∈ ([[], [58], [55], [124], (List.replicate 41 [122]).flatten, (List.replicate 41 [122]).flatten ++ [58], [94], [35, 97], [91], [33]] : List (List Nat)), x.length ≤ 50 by decide) x hx
                  have e1 := str_app [35] x
                  refine ⟨_, rfl, by rw [Tx.str_len]; exact szl (by simp only [List.length_cons, List.length_nil]; omega), ?_⟩
                  rw [e1]
                  refine fin _ 0 _ _ H2 ((b1.trans (Cm.Same.but (same_new n1))).trans b2) (hb2.mono (by omega)) (bad_in ?_) rfl rfl
                  exact List.mem_append_left _ (List.mem_append_right _ (List.mem_map.mpr ⟨x, hx, rfl⟩))
                · refine ⟨show 14 ≤ sizeLine by decide, fun q1 n1 => ⟨p, q1, _, _, rfl, hb1.same (same_new n1), by omega, sqL upd_same, hb1.np n1, by decide, by decide, fun y H2 b2 hb2 hy => ?_⟩⟩
                  have hy' : y ∈ bad7.map S := hy
                  obtain ⟨x, hx, rfl⟩ := List.mem_map.mp hy'
                  exact fin x 0 _ _ H2 ((b1.trans (Cm.Same.but (same_new n1))).trans b2) (hb2.mono (by omega)) (bad_in (List.mem_append_right _ hx)) rfl rfl
theorem ok__law_told (M : Mg P w K mg base CB) : Ok P w K mg base 11 "_law_told" ["_law_source"] spTold := by
  refine mk M.a__law_told sc__law_told (fun _ _ _ _ _ _ us hl => match us, hl with | [_], _ => rfl) (fun vs H Q E h => ?_) (fun f cdv A outer s H vs Q E hr h => ?_)
  · obtain ⟨t, rfl, _⟩ := h
    rfl
  · obtain ⟨t, rfl, ht, kk⟩ := h
    refine ⟨_, (pss_cons (ps_asg pe_non (pg_name (i := 1) sc__law_told.nd rfl (.inl rfl)))
      (pss_cons (ps_asg (pe_strL [114, 101, 97, 100]) (pg_name (i := 2) sc__law_told.nd rfl (.inl rfl)))
      (pss_cons (ps_try_as (i := 3) rfl rfl sc__law_told.nd rfl rfl ⟨rfl, by decide, Or.inl M.md.x_BadSource.g⟩ takes0
        (fun W pn xe tk _ => (pss_one (ps_asg (pcS (ok_words_of M.md) (hr.mono (by decide)) (by rfl) (fun σ => passAt tk σ) (pa_cons (pv 0) pa_nil)) (pg_name (i := 1) sc__law_told.nd rfl (.inl rfl)))))
        (fun a oe cls d pn hz hf => (pss_one (ps_asg (pe_xf M.md.x_BadSource.xf M.md.x_BadSource.no hz hf (pv 3)) (pg_name (i := 2) sc__law_told.nd rfl (.inl rfl))))))
      (pss_one (ps_ret (pe_tup (pa_cons (pv 1) (pa_cons (pv 2) pa_nil)))))))), ?_⟩
    show tSeq _ _ _ [some (S t), none, none, none] H
    simp only [L2.tSeq, L2.tRet, L2.tVar, L2.tAnd, L2.tOr, L2.tNot, L2.tTest, L2.tOp, L2.tUn, L2.rU, L2.tCB, L2.tCons, L2.tNil, L2.rIxS, L2.rI0, L2.rI, L2.rEq, L2.rNe, L2.tAug, L2.ipI, L2.tC, L2.tIfS, L2.tIf, L2.tCall, L2.tAsg, L2.gName, L2.tSl, L2.rSlS, L2.tPart, L2.tNoPart, L2.tBM, L2.tBM0, L2.tB, L2.tAndV, L2.tOrV, L2.tNotV, L2.tDrop, L2.tNext, L2.tChain, L2.tPar, L2.tPar3, Cm.tErr, Cm.tGT, L2.tTup, L2.tLst,
  List.getElem?_cons_zero, List.getElem?_cons_succ, Option.some.injEq, exists_eq_left', exists_eq_left, exists_eq', exists_eq, exists_and_left, exists_and_right, exists_const, List.cons.injEq, and_true, true_and, L2.V.str.injEq, L2.V.int.injEq, L2.V.bl.injEq, L2.V.ref.injEq, PySem.Str.mk.injEq, Tx.arr1, Tx.str_len, Tx.at_nat, Tx.cut_nat, Tx.find_one,
  and_assoc, Int.ofNat_inj, Nat.add_sub_cancel_left, Lx.take1_eq, decide_eq_true_eq, Bool.not_eq_true', decide_eq_false_iff_not, Int.ofNat_lt, Int.ofNat_le, Bool.false_eq_true, if_false, if_true, List.set_cons_zero, List.set_cons_succ, List.append_nil, List.nil_append, ↓reduceIte, Cm.nat_succ, Cm.nat_add, Cm.nat_two, List.toList_toArray, not_true, not_false_iff, Cm.toArr_inj, Cm.two_one, Cm.tyV_str, Cm.scal_ss, Cm.scal_ii, Cm.scal_bb, Cm.cb_K, reduceCtorEq, false_and, exists_false, or_false, false_or, List.map_cons, List.map_nil, tCallS]
    have key : lexRes CB H (fun x H1 => [x, S [114, 101, 97, 100]].length ≤ sizeLine ∧ ∀ (p : Addr), H1 p = none → Q (V.ref p) (upd H1 p (HO.tup [x, S [114, 101, 97, 100]])))
        (WE (wAs K (Value.ref CB) 3 (fun a cls d => tAsg (tXf a cls d CB "place" (tVar 3)) (gName 2)) (fun x x_1 x_2 x_3 => False)
          { nx := tRet (tTup (tCons (tVar 1) (tCons (tVar 2) tNil))) { nx := fun x H' => Q V.non H', rt := Q }, rt := Q }) [some (S t), some V.non, some (S [114, 101, 97, 100]), none]) (wordsOf t) := by
      cases r : wordsOf t with
      | ok ws => exact fun l H1 s1 nl hT => ⟨show 2 ≤ sizeLine by decide, fun p np => kk p _ (s1.trans (same_new np)) (s1.free np) (fun ws' e => by rw [r] at e; cases e; exact ⟨l, nl, upd_same, toks_same (same_new np) hT⟩) (fun q e => by rw [r] at e; cases e)⟩
      | error q =>
        intro d H1 s1 nd hd
        refine ⟨true, M.md.x_BadSource.em, fun _ a na => ?_, fun z => by cases z⟩
        refine ⟨_, rfl, rfl, rfl, d, _, .int q, rfl, hd, rfl, ?_⟩
        refine ⟨_, rfl, _, rfl, show 2 ≤ sizeLine by decide, fun b nb => ?_⟩
        exact kk b _ (s1.trans (same_new nb)) (s1.free nb) (fun ws' e => by rw [r] at e; cases e) (fun q' e => by rw [r] at e; cases e; exact upd_same)
    exact ⟨_, rfl, .inl ⟨t, rfl, ht, key⟩⟩
end
end W
namespace W
open PySem PySem.Spec PyProof.Rows L2 Cm Lx
abbrev s__law_same : Stmt := topS 52
theorem sc__law_same : FnScope ["_law_found", "_law_due", "_law_one_here", "_law_word"] ["_law_found", "_law_due"] (defScope s__law_same) := ⟨rfl, rfl, rfl, by decide +kernel, rfl, by decide +kernel, by decide +kernel⟩
abbrev s__law_right : Stmt := topS 53
theorem sc__law_right : FnScope ["_law_source", "_law_due", "_law_bad_here", "_law_found", "_law_place"] ["_law_source", "_law_due", "_law_bad_here"] (defScope s__law_right) := ⟨rfl, rfl, rfl, by decide +kernel, rfl, by decide +kernel, by decide +kernel⟩
structure Ms (P : Program) (w : World) (K : PySem.W.Frag) (mg : Str → Option Value) (base : Heap) (CB : Addr) : Prop where
  md : Md P w K mg base CB
  mgg : Mg P w K mg base CB
  a__law_same : At K mg "_law_same" s__law_same
  a__law_right : At K mg "_law_right" s__law_right
  g_isinstance : mg "isinstance" = none
  g_list : mg "list" = none
  g_tuple : mg "tuple" = none
  g_bool : mg "bool" = none
  g_str : mg "str" = none
  g_int : mg "int" = none
  g_len : mg "len" = none
  g_zip : mg "zip" = none
def vD : V → PyData
  | .int i => .int i
  | .str x => .str x
  | _ => .none
def tokD (t : Lx.Tok) : PyData := .tuple [.str ⟨t.1.toArray⟩, vD t.2.1, .int (t.2.2 : Nat)]
def vOk : V → Bool
  | .int _ => true
  | .str x => PyData.strOk x
  | _ => false
def tokOk (t : Lx.Tok) : Bool := PyData.strOk ⟨t.1.toArray⟩ && vOk t.2.1
section
variable {K : PySem.W.Frag}
theorem tok_dp {H : Hp} {q : Addr} {t : Lx.Tok} (h : TokAt H q t) (ok : tokOk t = true) : Dp K H (.ref q) (tokD t) := by
  obtain ⟨h1, _⟩ := h
  unfold tokOk at ok
  rw [Bool.and_eq_true] at ok
  refine .tup (sqT h1) (.cons (.str _) (.cons ?_ (.cons (.int _) .nil)))
  cases q : t.2.1 <;> rw [q] at ok <;> first | exact .int _ | exact .str _ | exact absurd ok.2 (by simp [vOk])
theorem toks_dp {H : Hp} : ∀ {ps : List Addr} {ws : Toks}, Paired (TokAt H) ps ws → ws.all tokOk = true → DpAll K H (ps.map V.ref) (ws.map tokD)
  | _, _, .nil, _ => .nil
  | _, _, .cons h r, ok => by
    rw [List.all_cons, Bool.and_eq_true] at ok
    exact .cons (tok_dp h ok.1) (toks_dp r ok.2)
theorem tok_lay {t : Lx.Tok} (ok : tokOk t = true) : (tokD t).canLay0 = true := by
  obtain ⟨k, v, p⟩ := t
  unfold tokOk at ok
  rw [Bool.and_eq_true] at ok
  cases v with
  | int i => simp only [tokD, vD, PyData.canLay0, PyData.canLayAll0, Bool.and_true, ok.1]
  | str x => simp only [tokD, vD, PyData.canLay0, PyData.canLayAll0, Bool.and_true, ok.1, show PyData.strOk x = true from ok.2]
  | _ => exact absurd ok.2 (by simp [vOk])
end
theorem paired_get {α β : Type} {R : α → β → Prop} : ∀ {xs : List α} {ys : List β} {i : Nat} {x : α}, Paired R xs ys → xs[i]? = some x → ∃ y, ys[i]? = some y ∧ R x y
  | _, _, _, _, .nil, h => by simp at h
  | _, _, 0, _, .cons r t, h => by
    simp at h
    subst h
    exact ⟨_, rfl, r⟩
  | _, _, i + 1, _, .cons r t, h => by
    obtain ⟨y, h1, h2⟩ := paired_get (i := i) t (by simpa using h)
    exact ⟨y, by simpa using h1, h2⟩
theorem paired_len {α β : Type} {R : α → β → Prop} : ∀ {xs : List α} {ys : List β}, Paired R xs ys → xs.length = ys.length
  | _, _, .nil => rfl
  | _, _, .cons _ t => by rw [List.length_cons, List.length_cons, paired_len t]
theorem wd_tok {w : Wd} (h : w.Wf) (p : Nat) : tokOk (w.kind, w.val, p) = true := by
  have ok := wd_okc h
  have hk : PyData.strOk ⟨w.kind.toArray⟩ = true := by
    have key : ∀ k ∈ [kName, kKeyword, kInt, kStr, kSym, kOp, kSign], PyData.strOk ⟨k.toArray⟩ = true := by decide +kernel
    refine key _ ?_
    cases w <;> simp [Wd.kind]
  have hv : vOk w.val = true := by
    cases w with
    | name n => exact strOk_of ok
    | kw n => exact strOk_of ok
    | int b d => rfl
    | str t => exact strOk_of (okc_mem h.1)
    | symS t => exact strOk_of (okc_mem h.1)
    | symN n => exact strOk_of fun c hc => ok c (List.mem_cons_of_mem _ hc)
    | symK ns => exact strOk_of fun c hc => ok c (List.mem_cons_of_mem _ hc)
    | symO o => exact strOk_of fun c hc => ok c (List.mem_cons_of_mem _ hc)
    | op o => exact strOk_of ok
    | sign s => exact strOk_of ok
  show (PyData.strOk ⟨w.kind.toArray⟩ && vOk w.val) = true
  rw [hk, hv]
  rfl
theorem tok_shaped {t : Lx.Tok} (ok : tokOk t = true) : SeqAt.shaped (tokD t) = true := by
  unfold SeqAt.shaped
  rw [Bool.and_eq_true]
  refine ⟨tok_lay ok, ?_⟩
  obtain ⟨k, v, p⟩ := t
  cases v <;> simp [tokD, vD, PyData.depthAll, PyData.depth]
/-- of which type a word's value is -/
def isI : V → Bool
  | .int _ => true
  | _ => false
theorem wd_int (w : Wd) : isI w.val = decide (w.kind = kInt) := by
  cases w <;> first | rfl | (show false = decide _; decide) | (show true = decide _; decide)
section
variable {P : Program} {w : World} {K : PySem.W.Frag} {mg : Str → Option Value} {base : Heap} {CB : Addr}
def spSame : Sp := fun vs H Q _ => ∃ (l d : Addr) (ws : Toks), vs = [.ref l, .ref d] ∧ ToksAt H l ws ∧ ToksAt H d ws ∧ ws.length ≤ 2000 ∧ (∀ t ∈ ws, ∃ w : Wd, w.Wf ∧ t.1 = w.kind ∧ t.2.1 = w.val) ∧ ∀ H', Same H H' → Q (.bl true) H'
theorem ok__law_same (M : Ms P w K mg base CB) : Ok P w K mg base 1 "_law_same" ["_law_found", "_law_due"] spSame := by
  refine mk M.a__law_same sc__law_same (fun _ _ _ _ _ _ us hl => match us, hl with | [_, _], _ => rfl) (fun vs H Q E h => ?_) (fun f cdv A outer s H vs Q E hr h => ?_)
  · obtain ⟨l, d, ws, rfl, _⟩ := h
    rfl
  · obtain ⟨l, d, ws, rfl, hl, hd, hwl, hfit, kk⟩ := h
    refine ⟨_, (pss_cons (ps_if (PW.pt (pw_or (pt_not (pt_val (pe_callB call_isi (by rfl) M.g_isinstance (by decide +kernel) (pa_cons (pv 0) (pa_cons (pe_bltn (v := .ty "list") (by rfl) M.g_list (by decide +kernel) rfl) pa_nil))))) (pw_or1 (pt_cmpR op_ne (pe_callB call_len_seq (by rfl) M.g_len PySem.boot_len (pa_cons (pv 0) pa_nil)) (pe_callB call_len_seq (by rfl) M.g_len PySem.boot_len (pa_cons (pv 1) pa_nil)) (nomark _))))) (pss_one (ps_ret pe_bl)) pss_nil)
      (pss_cons (ps_for (passes_of rfl) rfl (pi_zip (by rfl) M.g_zip (pa_cons (pv 0) (pa_cons (pv 1) pa_nil))) (pg_tup (by rfl) (pgs_cons (pg_name (i := 2) sc__law_same.nd rfl (.inl rfl)) (pgs_cons (pg_name (i := 3) sc__law_same.nd rfl (.inl rfl)) pgs_nil)))
      (pss_cons (ps_if (PW.pt (pw_or (pt_not (pt_val (pe_callB call_isi (by rfl) M.g_isinstance (by decide +kernel) (pa_cons (pv 2) (pa_cons (pe_bltn (v := .ty "tuple") (by rfl) M.g_tuple (by decide +kernel) rfl) pa_nil))))) (pw_or (pt_cmpR (op_neD hr.units) (pv 2) (pv 3) (nomark _)) (pw_or (pt_val (pe_callB call_isi (by rfl) M.g_isinstance (by decide +kernel) (pa_cons (pe_ix ix_tup (pv 2) pe_int (fun _ _ => rfl)) (pa_cons (pe_bltn (v := .ty "bool") (by rfl) M.g_bool (by decide +kernel) rfl) pa_nil)))) (pw_or1 (pt_val (pe_callB call_isi (by rfl) M.g_isinstance (by decide +kernel) (pa_cons (pe_ix ix_tup (pv 2) pe_int (fun _ _ => rfl)) (pa_cons (pe_bltn (v := .ty "bool") (by rfl) M.g_bool (by decide +kernel) rfl) pa_nil))))))))) (pss_one (ps_ret pe_bl)) pss_nil)
      (pss_one (ps_if (PW.pt (pw_or (pt_not (pt_val (pe_callB call_isi (by rfl) M.g_isinstance (by decide +kernel) (pa_cons (pe_ix ix_tup (pv 2) pe_int (fun _ _ => rfl)) (pa_cons (pe_bltn (v := .ty "str") (by rfl) M.g_str (by decide +kernel) rfl) pa_nil))))) (pw_or (pt_cmpR op_ne (pe_callB call_isi (by rfl) M.g_isinstance (by decide +kernel) (pa_cons (pe_ix ix_tup (pv 2) pe_int (fun _ _ => rfl)) (pa_cons (pe_bltn (v := .ty "int") (by rfl) M.g_int (by decide +kernel) rfl) pa_nil))) (pe_cmpR op_eq (pe_ix ix_tup (pv 3) pe_int (fun _ _ => rfl)) (pe_strL [105, 110, 116]) (nomark _)) (nomark _)) (pw_or1 (pt_not (pt_val (pe_callB call_isi (by rfl) M.g_isinstance (by decide +kernel) (pa_cons (pe_ix ix_tup (pv 2) pe_int (fun _ _ => rfl)) (pa_cons (pe_bltn (v := .ty "int") (by rfl) M.g_int (by decide +kernel) rfl) pa_nil))))))))) (pss_one (ps_ret pe_bl)) pss_nil))))
      (pss_one (ps_ret pe_bl)))), ?_⟩
    show tSeq _ _ _ [some (.ref l), some (.ref d), none, none] H
    simp only [L2.tSeq, L2.tRet, L2.tVar, L2.tAnd, L2.tOr, L2.tNot, L2.tTest, L2.tOp, L2.tUn, L2.rU, L2.tCB, L2.tCons, L2.tNil, L2.rIxS, L2.rI0, L2.rI, L2.rEq, L2.rNe, L2.tAug, L2.ipI, L2.tC, L2.tIfS, L2.tIf, L2.tCall, L2.tAsg, L2.gName, L2.tSl, L2.rSlS, L2.tPart, L2.tNoPart, L2.tBM, L2.tBM0, L2.tB, L2.tAndV, L2.tOrV, L2.tNotV, L2.tDrop, L2.tNext, L2.tChain, L2.tPar, L2.tPar3, Cm.tErr, Cm.tGT, L2.tTup, L2.tLst,
  List.getElem?_cons_zero, List.getElem?_cons_succ, Option.some.injEq, exists_eq_left', exists_eq_left, exists_eq', exists_eq, exists_and_left, exists_and_right, exists_const, List.cons.injEq, and_true, true_and, L2.V.str.injEq, L2.V.int.injEq, L2.V.bl.injEq, L2.V.ref.injEq, PySem.Str.mk.injEq, Tx.arr1, Tx.str_len, Tx.at_nat, Tx.cut_nat, Tx.find_one,
  and_assoc, Int.ofNat_inj, Nat.add_sub_cancel_left, Lx.take1_eq, decide_eq_true_eq, Bool.not_eq_true', decide_eq_false_iff_not, Int.ofNat_lt, Int.ofNat_le, Bool.false_eq_true, if_false, if_true, List.set_cons_zero, List.set_cons_succ, List.append_nil, List.nil_append, ↓reduceIte, Cm.nat_succ, Cm.nat_add, Cm.nat_two, List.toList_toArray, not_true, not_false_iff, Cm.toArr_inj, Cm.two_one, Cm.tyV_str, Cm.scal_ss, Cm.scal_ii, Cm.scal_bb, Cm.cb_K, reduceCtorEq, false_and, exists_false, or_false, false_or, List.map_cons, List.map_nil]
    obtain ⟨ps, hl1, hp1⟩ := hl
    obtain ⟨qs, hd1, hp2⟩ := hd
    have e1 := paired_len hp1
    have e2 := paired_len hp2
    refine ⟨_, _, _, _, true, rfl, .ty "list", .base (.lst hl1), kit_ty (a := "list") (by decide +kernel), _, rfl, ?_⟩
    refine ifF (by decide) ?_
    refine ⟨_, .inl (sqL hl1), _, .inl (sqL hd1), ?_⟩
    refine ifF (fun z => z (by rw [List.length_map, List.length_map, e1, e2])) ?_
    refine ⟨_, rfl, _, rfl, l, d, _, _, rfl, sqL hl1, sqL hd1, ?_⟩
    refine for_it (walk_zip (xs := ps.map V.ref) (ys := qs.map V.ref) (n := ws.length) (by rw [List.length_map, List.length_map, e1, e2, Nat.min_self])) (fun i σ H' => ∃ v2 v3, σ = [some (.ref l), some (.ref d), v2, v3] ∧ Same H H') ⟨none, none, rfl, Same.refl H⟩ (fun i σ H' _ h => ?_) ?_ ?_
    · obtain ⟨_, _, _, sH⟩ := h
      exact ⟨sqL (sH _ _ hl1), sqL (sH _ _ hd1)⟩
    · rintro i x σ H2 H3 hi ⟨v2, v3, rfl, sH⟩ ⟨T, y, z, rfl, nT, rfl, hy, hz⟩
      simp only [List.getElem?_map] at hy hz
      obtain ⟨p1, hy1, rfl⟩ := Option.map_eq_some_iff.mp hy
      obtain ⟨p2, hz1, rfl⟩ := Option.map_eq_some_iff.mp hz
      obtain ⟨t, ht1, ht2⟩ := paired_get hp1 hy1
      obtain ⟨t', ht3, ht4⟩ := paired_get hp2 hz1
      rw [ht1] at ht3
      cases ht3
      have s3 : Same H (upd H2 T (HO.tup [V.ref p1, V.ref p2])) := sH.trans (same_new nT)
      have h3 : upd H2 T (HO.tup [V.ref p1, V.ref p2]) T = some (HO.tup [V.ref p1, V.ref p2]) := upd_same
      generalize upd H2 T (HO.tup [V.ref p1, V.ref p2]) = H3 at s3 h3 ⊢
      obtain ⟨w, hw, hk, hv⟩ := hfit t (List.mem_of_getElem? ht1)
      have tok : tokOk t = true := by
        have := wd_tok hw t.2.2
        rw [← hk, ← hv] at this
        exact this
      have a1 : TokAt H3 p1 t := ⟨s3 _ _ ht2.1, ht2.2⟩
      have a2 : TokAt H3 p2 t := ⟨s3 _ _ ht4.1, ht4.2⟩
      refine ⟨T, _, rfl, sqT h3, rfl, _, _, rfl, _, _, rfl, rfl, ?_⟩
      simp only [L2.tSeq, L2.tRet, L2.tVar, L2.tAnd, L2.tOr, L2.tNot, L2.tTest, L2.tOp, L2.tUn, L2.rU, L2.tCB, L2.tCons, L2.tNil, L2.rIxS, L2.rI0, L2.rI, L2.rEq, L2.rNe, L2.tAug, L2.ipI, L2.tC, L2.tIfS, L2.tIf, L2.tCall, L2.tAsg, L2.gName, L2.tSl, L2.rSlS, L2.tPart, L2.tNoPart, L2.tBM, L2.tBM0, L2.tB, L2.tAndV, L2.tOrV, L2.tNotV, L2.tDrop, L2.tNext, L2.tChain, L2.tPar, L2.tPar3, Cm.tErr, Cm.tGT, L2.tTup, L2.tLst,
  List.getElem?_cons_zero, List.getElem?_cons_succ, Option.some.injEq, exists_eq_left', exists_eq_left, exists_eq', exists_eq, exists_and_left, exists_and_right, exists_const, List.cons.injEq, and_true, true_and, L2.V.str.injEq, L2.V.int.injEq, L2.V.bl.injEq, L2.V.ref.injEq, PySem.Str.mk.injEq, Tx.arr1, Tx.str_len, Tx.at_nat, Tx.cut_nat, Tx.find_one,
  and_assoc, Int.ofNat_inj, Nat.add_sub_cancel_left, Lx.take1_eq, decide_eq_true_eq, Bool.not_eq_true', decide_eq_false_iff_not, Int.ofNat_lt, Int.ofNat_le, Bool.false_eq_true, if_false, if_true, List.set_cons_zero, List.set_cons_succ, List.append_nil, List.nil_append, ↓reduceIte, Cm.nat_succ, Cm.nat_add, Cm.nat_two, List.toList_toArray, not_true, not_false_iff, Cm.toArr_inj, Cm.two_one, Cm.tyV_str, Cm.scal_ss, Cm.scal_ii, Cm.scal_bb, Cm.cb_K, reduceCtorEq, false_and, exists_false, or_false, false_or, List.map_cons, List.map_nil, rIxT]
      have vty : (∃ x, t.2.1 = .str x) ∨ ∃ i, t.2.1 = .int i := by
        rw [hv]
        cases w with
        | int b d => exact .inr ⟨_, rfl⟩
        | _ => exact .inl ⟨_, rfl⟩
      have ti : ∃ T, TyX K H3 t.2.1 (.type T) ∧ kitB T "bool" = some false ∧ kitB T "int" = some (decide (t.1 = kInt)) := by
        have hi : isI t.2.1 = decide (t.1 = kInt) := by rw [hv, hk]; exact wd_int w
        rcases vty with ⟨x, e⟩ | ⟨i, e⟩
        · rw [e] at hi ⊢
          exact ⟨"str", .base (.str _), by decide +kernel, by rw [← hi]; show _ = some false; decide +kernel⟩
        · rw [e] at hi ⊢
          exact ⟨"int", .base (.int _), by decide +kernel, by rw [← hi]; show _ = some true; decide +kernel⟩
      obtain ⟨T2, k1, k2, k3⟩ := ti
      have sq1 : SqT K H3 p1 [S t.1, t.2.1, .int (t.2.2 : Nat)] := sqT a1.1
      have sq2 : SqT K H3 p2 [S t.1, t.2.1, .int (t.2.2 : Nat)] := sqT a2.1
      refine ⟨_, _, _, _, true, rfl, .ty "tuple", .base (.tup a1.1), kit_ty (a := "tuple") (by decide +kernel), _, rfl, ?_⟩
      refine ifF (by decide) ?_
      refine ⟨tokD t, tokD t, tok_dp a1 tok, tok_dp a2 tok, tok_shaped tok, tok_shaped tok, _, rfl, ?_⟩
      refine ifF (by rw [SeqAt.eqv_refl _ (SeqAt.canLay_of_shaped (tok_shaped tok))]; decide) ?_
      refine ⟨_, sq1, t.2.1, rfl, _, _, _, _, false, rfl, .ty "bool", k1, kit_ty k2, _, rfl, ?_⟩
      refine ifF (by decide) ?_
      refine ⟨_, sq1, .int (t.2.2 : Nat), rfl, _, _, _, _, false, rfl, .ty "bool", .base (.int _), kit_ty (a := "int") (by decide +kernel), _, rfl, ?_⟩
      refine ifF (by decide) ?_
      refine ⟨_, sq1, S t.1, rfl, _, _, _, _, true, rfl, .ty "str", .base (.str _), kit_ty (a := "str") (by decide +kernel), _, rfl, ?_⟩
      refine ifF (by decide) ?_
      refine ⟨_, sq1, t.2.1, rfl, _, _, _, _, decide (t.1 = kInt), rfl, .ty "int", k1, kit_ty k3, ?_⟩
      refine ⟨_, sq2, S t.1, rfl, rfl, rfl, ?_⟩
      refine ifF (fun z => z (by rw [show decide (S t.1 = S [105, 110, 116]) = decide (t.1 = kInt) from decide_eq_decide.mpr sv_inj])) ?_
      refine ⟨_, sq1, .int (t.2.2 : Nat), rfl, _, _, _, _, true, rfl, .ty "int", .base (.int _), kit_ty (a := "int") (by decide +kernel), _, rfl, ?_⟩
      refine ifF (by decide) ?_
      exact s3
    · rintro σ H2 ⟨v2, v3, rfl, sH⟩
      exact kk H2 sH
def Fits (ws : Toks) : Prop := ∀ t ∈ ws, ∃ w : Wd, w.Wf ∧ t.1 = w.kind ∧ t.2.1 = w.val
def spRight : Sp := fun vs H Q _ => ∃ (src : List Nat) (d : Addr) (vb : V) (due : Toks), vs = [S src, .ref d, vb] ∧ src.length ≤ 1800 ∧ ToksAt H d due ∧ due.length ≤ 2000 ∧ Fits due ∧ wordsOf src = .ok due ∧
  (vb = .non ∨ ∃ a b q, vb = .ref a ∧ H a = some (.tup [S b, .int (q : Nat)]) ∧ b.length ≤ 130 ∧ wordsOf (src ++ 32 :: b) = .error ((src.length + 1 + q : Nat) : Int)) ∧ ∀ H', Q (.bl true) H'
theorem ok__law_right (M : Ms P w K mg base CB) : Ok P w K mg base 12 "_law_right" ["_law_source", "_law_due", "_law_bad_here"] spRight := by
  refine mk M.a__law_right sc__law_right (fun _ _ _ _ _ _ us hl => match us, hl with | [_, _, _], _ => rfl) (fun vs H Q E h => ?_) (fun f cdv A outer s H vs Q E hr h => ?_)
  · obtain ⟨src, d, vb, due, rfl, _⟩ := h
    rfl
  · obtain ⟨src, d, vb, due, rfl, hsl, hd, hdl, hfit, hw, hbad, kk⟩ := h
    refine ⟨_, (pss_cons (ps_if (pt_cmpR op_notN (pv 2) pe_non (nomark _)) (pss_one (ps_ret (pe_cmpR (op_eqD hr.units) (pc (ok__law_told M.mgg) (hr.mono (by decide)) (by rfl) psb (pa_cons (pe_op op_add_str (pe_op op_add_str (pv 0) (pe_strL [32])) (pe_ix ix_tup (pv 2) pe_int (fun _ _ => rfl))) pa_nil)) (pe_tup (pa_cons pe_non (pa_cons (pe_op op_add (pe_op op_add (pe_callB call_len_str (by rfl) M.g_len PySem.boot_len (pa_cons (pv 0) pa_nil)) pe_int) (pe_ix ix_tup (pv 2) pe_int (fun _ _ => rfl))) pa_nil))) (nomark _)))) pss_nil)
      (pss_cons (ps_asg (pc (ok__law_told M.mgg) (hr.mono (by decide)) (by rfl) psb (pa_cons (pv 0) pa_nil)) (pg_tup (by rfl) (pgs_cons (pg_name (i := 3) sc__law_right.nd rfl (.inl rfl)) (pgs_cons (pg_name (i := 4) sc__law_right.nd rfl (.inl rfl)) pgs_nil))))
      (pss_cons (ps_if (PW.pt (pw_or (pt_cmpR op_ne (pv 4) (pe_strL [114, 101, 97, 100]) (nomark _)) (pw_or1 (pt_not (pt_val (pc (ok__law_same M) (hr.mono (by decide)) (by rfl) psb (pa_cons (pv 3) (pa_cons (pv 1) pa_nil)))))))) (pss_one (ps_ret pe_bl)) pss_nil)
      (pss_cons (ps_expr (pe_bm PySem.F.plainAttrs_list PySem.F.slot_list_append PySem.F.type_list_append mt_append (pv 3) (pa_cons (pe_slice sl_list (pv 3) po_none (po_some pe_int)) pa_nil)))
      (pss_one (ps_ret (pc (ok__law_same M) (hr.mono (by decide)) (by rfl) psb (pa_cons (pc (ok_words_of M.md) (hr.mono (by decide)) (by rfl) psb (pa_cons (pv 0) pa_nil)) (pa_cons (pv 1) pa_nil))))))))), ?_⟩
    show tSeq _ _ _ [some (S src), some (.ref d), some vb, none, none] H
    simp only [L2.tSeq, L2.tRet, L2.tVar, L2.tAnd, L2.tOr, L2.tNot, L2.tTest, L2.tOp, L2.tUn, L2.rU, L2.tCB, L2.tCons, L2.tNil, L2.rIxS, L2.rI0, L2.rI, L2.rEq, L2.rNe, L2.tAug, L2.ipI, L2.tC, L2.tIfS, L2.tIf, L2.tCall, L2.tAsg, L2.gName, L2.tSl, L2.rSlS, L2.tPart, L2.tNoPart, L2.tBM, L2.tBM0, L2.tB, L2.tAndV, L2.tOrV, L2.tNotV, L2.tDrop, L2.tNext, L2.tChain, L2.tPar, L2.tPar3, Cm.tErr, Cm.tGT, L2.tTup, L2.tLst,
  List.getElem?_cons_zero, List.getElem?_cons_succ, Option.some.injEq, exists_eq_left', exists_eq_left, exists_eq', exists_eq, exists_and_left, exists_and_right, exists_const, List.cons.injEq, and_true, true_and, L2.V.str.injEq, L2.V.int.injEq, L2.V.bl.injEq, L2.V.ref.injEq, PySem.Str.mk.injEq, Tx.arr1, Tx.str_len, Tx.at_nat, Tx.cut_nat, Tx.find_one,
  and_assoc, Int.ofNat_inj, Nat.add_sub_cancel_left, Lx.take1_eq, decide_eq_true_eq, Bool.not_eq_true', decide_eq_false_iff_not, Int.ofNat_lt, Int.ofNat_le, Bool.false_eq_true, if_false, if_true, List.set_cons_zero, List.set_cons_succ, List.append_nil, List.nil_append, ↓reduceIte, Cm.nat_succ, Cm.nat_add, Cm.nat_two, List.toList_toArray, not_true, not_false_iff, Cm.toArr_inj, Cm.two_one, Cm.tyV_str, Cm.scal_ss, Cm.scal_ii, Cm.scal_bb, Cm.cb_K, reduceCtorEq, false_and, exists_false, or_false, false_or, List.map_cons, List.map_nil, rIxT]
    rcases hbad with rfl | ⟨a, b, q, rfl, ha, hbl, hwb⟩
    · refine ifF (fun z => z rfl) ?_
      refine ⟨src, rfl, show src.length ≤ 100000 by omega, fun a1 H1 s1 na1 hok her => ?_⟩
      obtain ⟨l, nl, ha1, ht1⟩ := hok due hw
      refine ⟨a1, _, rfl, sqT ha1, rfl, _, _, rfl, _, _, rfl, rfl, ?_⟩
      simp only [L2.tSeq, L2.tRet, L2.tVar, L2.tAnd, L2.tOr, L2.tNot, L2.tTest, L2.tOp, L2.tUn, L2.rU, L2.tCB, L2.tCons, L2.tNil, L2.rIxS, L2.rI0, L2.rI, L2.rEq, L2.rNe, L2.tAug, L2.ipI, L2.tC, L2.tIfS, L2.tIf, L2.tCall, L2.tAsg, L2.gName, L2.tSl, L2.rSlS, L2.tPart, L2.tNoPart, L2.tBM, L2.tBM0, L2.tB, L2.tAndV, L2.tOrV, L2.tNotV, L2.tDrop, L2.tNext, L2.tChain, L2.tPar, L2.tPar3, Cm.tErr, Cm.tGT, L2.tTup, L2.tLst,
  List.getElem?_cons_zero, List.getElem?_cons_succ, Option.some.injEq, exists_eq_left', exists_eq_left, exists_eq', exists_eq, exists_and_left, exists_and_right, exists_const, List.cons.injEq, and_true, true_and, L2.V.str.injEq, L2.V.int.injEq, L2.V.bl.injEq, L2.V.ref.injEq, PySem.Str.mk.injEq, Tx.arr1, Tx.str_len, Tx.at_nat, Tx.cut_nat, Tx.find_one,
  and_assoc, Int.ofNat_inj, Nat.add_sub_cancel_left, Lx.take1_eq, decide_eq_true_eq, Bool.not_eq_true', decide_eq_false_iff_not, Int.ofNat_lt, Int.ofNat_le, Bool.false_eq_true, if_false, if_true, List.set_cons_zero, List.set_cons_succ, List.append_nil, List.nil_append, ↓reduceIte, Cm.nat_succ, Cm.nat_add, Cm.nat_two, List.toList_toArray, not_true, not_false_iff, Cm.toArr_inj, Cm.two_one, Cm.tyV_str, Cm.scal_ss, Cm.scal_ii, Cm.scal_bb, Cm.cb_K, reduceCtorEq, false_and, exists_false, or_false, false_or, List.map_cons, List.map_nil, kRead]
      refine ⟨l, d, due, rfl, ht1, toks_same s1 hd, hdl, hfit, fun H2 s2 => ⟨true, rfl, ?_⟩⟩
      refine ifF (by decide) ?_
      obtain ⟨ps, hl1, hp1⟩ := ht1
      have e1 := paired_len hp1
      refine ⟨tyV_lst (s2 _ _ hl1), l, _, rfl, sqL (s2 _ _ hl1), fun c nc => ?_⟩
      refine ⟨l, _, _, rfl, rfl, same_new nc _ _ (s2 _ _ hl1), by rw [List.length_map, e1]; exact Nat.lt_of_le_of_lt hdl (by decide), ?_⟩
      have s5 : ∀ (G : Hp) (o : HO), Same H G → Same H (upd G l o) := fun G o sG b u e => by
        rw [upd_ne (ne_of_none e nl)]
        exact sG _ _ e
      have sH := s5 _ (HO.lst (ps.map V.ref ++ [V.ref c])) ((s1.trans s2).trans (same_new nc (o := HO.lst (cutV (ps.map V.ref) none (some 1)))))
      refine ⟨_, rfl, .inl ⟨src, rfl, show src.length ≤ 100000 by omega, ?_⟩⟩
      rw [hw]
      exact fun l2 H6 s6 nl2 ht6 => ⟨l2, d, due, rfl, ht6, toks_same (sH.trans s6) hd, hdl, hfit, fun H7 _ => kk H7⟩
    · refine ifT (by simp) ?_
      have e1 := str_app src [32]
      have e2 := str_app (src ++ [32]) b
      have e3 : src ++ [32] ++ b = src ++ 32 :: b := by simp
      rw [e3] at e2
      refine ⟨szl (by simp only [List.length_cons, List.length_nil]; omega), a, rfl, _, sqT ha, S b, rfl, _, rfl, by rw [e1, Tx.str_len, Tx.str_len]; exact szl (by rw [List.length_append]; simp only [List.length_cons, List.length_nil]; omega), ?_⟩
      rw [e1, e2]
      refine ⟨_, rfl, by show (src ++ 32 :: b).length ≤ 100000; rw [List.length_append, List.length_cons]; omega, fun a1 H1 s1 na1 hok her => ?_⟩
      have ht := her _ hwb
      refine ⟨szl (by omega), a, rfl, _, sqT (s1 _ _ ha), .int (q : Nat), rfl, _, rfl, show 2 ≤ sizeLine by decide, fun c nc => ?_⟩
      have s2 : Same H1 (upd H1 c (HO.tup [V.non, V.int (((src.length + 1 : Nat) : Int) + (q : Nat))])) := same_new nc
      refine ⟨.tuple [.none, .int ((src.length + 1 + q : Nat) : Int)], .tuple [.none, .int ((src.length + 1 + q : Nat) : Int)], .tup (sqT (s2 _ _ ht)) (.cons .non (.cons (.int _) .nil)), .tup (sqT upd_same) (.cons .non (.cons (.int _) .nil)), rfl, rfl, ?_⟩
      rw [SeqAt.eqv_refl _ rfl]
      exact kk _
end
end W
namespace W
open PySem PySem.Spec PyProof.Rows L2 Cm Lx
abbrev s_law : Stmt := topS 54
theorem sc_law : FnScope ["_law_script", "_law_source", "_law_due", "_law_open_signs", "_law_last", "_law_ahead", "_law_k", "_law_bag_here", "_law_turn", "_law_negative_here", "_law_word", "_law_bad_here"] ["_law_script"] (defScope s_law) := ⟨rfl, rfl, rfl, by decide +kernel, rfl, by decide +kernel, by decide +kernel⟩
structure Ml (P : Program) (w : World) (K : PySem.W.Frag) (mg : Str → Option Value) (base : Heap) (CB : Addr) : Prop where
  mb : Mb K mg
  mp : Mp K mg
  mo : Mo K mg
  ms : Ms P w K mg base CB
  a_law : At K mg "law" s_law
  g_range : mg "range" = none
  g_max : mg "max" = none
  g_min : mg "min" = none
  g_len : mg "len" = none
def spLaw (K : PySem.W.Frag) : Sp := fun vs H Q _ => ∃ (a : Addr) (ns : List Int), vs = [.ref a] ∧ SqL K H a (ns.map V.int) ∧ ∀ H', Q (.bl true) H'
def Keeps (K : PySem.W.Frag) (a p : Addr) (xs : List V) : Prop := a ≠ p ∨ ∀ G : Hp, SqL K G a xs
theorem keeps_of {K : PySem.W.Frag} {H : Hp} {a p : Addr} {xs : List V} (h : SqL K H a xs) (np : H p = none) : Keeps K a p xs := by
  rcases h with (h | ⟨o, h⟩) | h
  · exact .inl (ne_of_none h np)
  · exact .inl (ne_of_none h np)
  · exact .inr fun G => .inr h
theorem keeps_but {K : PySem.W.Frag} {H H' : Hp} {a p : Addr} {xs : List V} (k : Keeps K a p xs) (h : SqL K H a xs) (b : But p H H') : SqL K H' a xs := by
  rcases k with k | k
  · rcases h with (h | ⟨o, h⟩) | h
    · exact .inl (.inl (b _ _ k h))
    · exact .inl (.inr ⟨o, b _ _ k h⟩)
    · exact .inr h
  · exact k H'
def LastAt (G : Hp) (vl : V) : Option Wd → Prop
  | none => vl = .non
  | some w => ∃ aw, vl = .ref aw ∧ WdAt G aw w ∧ w.Wf
structure Core (K : PySem.W.Frag) (a : Addr) (xs : List V) (d l : Addr) (vl : V) (src : List Nat) (due : Toks) (wi : List Bool) (last : Option Wd) (ahead : Bool) (G : Hp) : Prop where
  sc : SqL K G a xs
  du : ToksAt G d due
  op : G l = some (.lst (wi.map V.bl))
  ld : l ≠ d
  la : LastAt G vl last
  sr : Src src due wi last ahead
  sl : src.length ≤ 1700
  dl : due.length ≤ src.length
  wl : wi.length ≤ src.length
  ft : Fits due
  kd : Keeps K a d xs
theorem LastAt.same {G G' : Hp} {vl : V} {last : Option Wd} (h : LastAt G vl last) (s : Same G G') : LastAt G' vl last := by
  cases last with
  | none => exact h
  | some w =>
    obtain ⟨aw, e, h1, h2⟩ := h
    exact ⟨aw, e, s _ _ h1, h2⟩
theorem LastAt.but {G G' : Hp} {vl : V} {last : Option Wd} {p : Addr} {xs : List V} (h : LastAt G vl last) (s : But p G G') (hp : G p = some (.lst xs)) : LastAt G' vl last := by
  cases last with
  | none => exact h
  | some w =>
    obtain ⟨aw, e, h1, h2⟩ := h
    refine ⟨aw, e, s _ _ (fun z => ?_) h1, h2⟩
    have h3 : G aw = _ := h1
    rw [z, hp] at h3
    cases h3
section
variable {K : PySem.W.Frag} {a d l p : Addr} {xs : List V} {vl : V} {src : List Nat} {due : Toks} {wi : List Bool} {last : Option Wd} {ahead : Bool} {G G' : Hp}
theorem Core.same (C : Core K a xs d l vl src due wi last ahead G) (s : Same G G') : Core K a xs d l vl src due wi last ahead G' :=
  ⟨s.seq C.sc, toks_same s C.du, s _ _ C.op, C.ld, C.la.same s, C.sr, C.sl, C.dl, C.wl, C.ft, C.kd⟩
theorem toks_but {m : Int} {ws : Toks} (b : But p G G') (hb : Bag m G p) (h : ToksAt G l ws) : ToksAt G' l ws := by
  obtain ⟨ps, h1, h2⟩ := h
  obtain ⟨A, B, C, h3, _⟩ := hb
  refine ⟨ps, b _ _ (fun z => ?_) h1, Cm.Paired.imp (fun q _ t => ⟨b _ _ (fun z => ?_) t.1, t.2⟩) h2⟩
  · rw [z, h3] at h1
    cases ps <;> simp at h1
  · have := t.1
    rw [z, h3] at this
    cases this
theorem Core.but {m : Int} (C : Core K a xs d l vl src due wi last ahead G) (b : But p G G') (hb : Bag m G p) (kp : Keeps K a p xs) : Core K a xs d l vl src due wi last ahead G' := by
  have hb' := hb
  obtain ⟨A0, B0, C0, h0, _⟩ := hb'
  refine ⟨keeps_but kp C.sc b, toks_but b hb C.du, b _ _ (fun z => ?_) C.op, C.ld, C.la.but b h0, C.sr, C.sl, C.dl, C.wl, C.ft, C.kd⟩
  have h1 := C.op
  rw [z, h0] at h1
  cases wi <;> simp at h1
end
theorem openF_len (wi : List Bool) (k t : List Nat) : (openF wi k t).length ≤ wi.length + 1 := by
  unfold openF
  split
  · simp
  · split
    · rw [List.length_dropLast]
      omega
    · omega
def OutInv (K : PySem.W.Frag) (a : Addr) (xs : List V) (σ : L2.St) (G : Hp) : Prop := ∃ d l vl src due wi last ahead v6 v7 v8 v9 v10, σ = [some (.ref a), some (S src), some (.ref d), some (.ref l), some vl, some (.bl ahead), v6, v7, v8, v9, v10, none] ∧ Core K a xs d l vl src due wi last ahead G
def InInv (K : PySem.W.Frag) (a : Addr) (xs : List V) (p : Addr) (m : Int) (i : Nat) (σ : L2.St) (G : Hp) : Prop := ∃ d l vl src due wi last ahead v6 v8 v9 v10, σ = [some (.ref a), some (S src), some (.ref d), some (.ref l), some vl, some (.bl ahead), v6, some (.ref p), v8, v9, v10, none] ∧ Core K a xs d l vl src due wi last ahead G ∧ Bag (m + 400 * i) G p ∧ Keeps K a p xs
section
variable {P : Program} {w : World} {K : PySem.W.Frag} {mg : Str → Option Value} {base : Heap} {CB : Addr}
theorem ok_law (M : Ml P w K mg base CB) : Ok P w K mg base 13 "law" ["_law_script"] (spLaw K) := by
  refine mk M.a_law sc_law (fun _ _ _ _ _ _ us hl => match us, hl with | [_], _ => rfl) (fun vs H Q E h => ?_) (fun f cdv A outer s H vs Q E hr h => ?_)
  · obtain ⟨a, ns, rfl, _⟩ := h
    rfl
  · obtain ⟨a, ns, rfl, hs, kk⟩ := h
    refine ⟨_, (pss_cons (ps_asg (pe_tup (pa_cons (pe_strL []) (pa_cons (pe_lst pa_nil) (pa_cons (pe_lst pa_nil) (pa_cons pe_non (pa_cons pe_bl pa_nil)))))) (pg_tup (by rfl) (pgs_cons (pg_name (i := 1) sc_law.nd rfl (.inl rfl)) (pgs_cons (pg_name (i := 2) sc_law.nd rfl (.inl rfl)) (pgs_cons (pg_name (i := 3) sc_law.nd rfl (.inl rfl)) (pgs_cons (pg_name (i := 4) sc_law.nd rfl (.inl rfl)) (pgs_cons (pg_name (i := 5) sc_law.nd rfl (.inl rfl)) pgs_nil)))))))
      (pss_cons (ps_for (passes_of rfl) rfl (pi_range1 (by rfl) M.g_range (pa_cons (pe_callB (call_max2 rfl) (by rfl) M.g_max (by decide +kernel) (pa_cons pe_int (pa_cons (pe_callB (call_min2 rfl) (by rfl) M.g_min (by decide +kernel) (pa_cons (pe_callB call_len_seq (by rfl) M.g_len PySem.boot_len (pa_cons (pv 0) pa_nil)) (pa_cons pe_int pa_nil))) pa_nil))) pa_nil)) (pg_name (i := 6) sc_law.nd rfl (.inl rfl))
      (pss_cons (ps_asg (pc (ok__law_bag M.mb) (hr.mono (by decide)) (by rfl) psb (pa_cons (pv 0) (pa_cons (pv 6) pa_nil))) (pg_name (i := 7) sc_law.nd rfl (.inl rfl)))
      (pss_one (ps_for (passes_of rfl) rfl (pi_range1 (by rfl) M.g_range (pa_cons pe_int pa_nil)) (pg_name (i := 8) sc_law.nd rfl (.inl rfl))
      (pss_cons (ps_if (pt_cmpR op_gt (pe_callB call_len_str (by rfl) M.g_len PySem.boot_len (pa_cons (pv 1) pa_nil)) pe_int (nomark _)) (pss_one ps_break) pss_nil)
      (pss_cons (ps_asg (pc (ok__law_negative M.mp) (hr.mono (by decide)) (by rfl) psb (pa_cons (pv 3) (pa_cons (pv 4) pa_nil))) (pg_name (i := 9) sc_law.nd rfl (.inl rfl)))
      (pss_cons (ps_asg (pc (ok__law_one M.mo) (hr.mono (by decide)) (by rfl) psb (pa_cons (pv 7) (pa_cons (pv 9) pa_nil))) (pg_name (i := 10) sc_law.nd rfl (.inl rfl)))
      (pss_cons (ps_asg (pe_op op_add_str (pv 1) (pc (ok__law_gap M.ms.mgg) (hr.mono (by decide)) (by rfl) psb (pa_cons (pv 7) (pa_cons (pe_and (pe_cmpR op_notN (pv 4) pe_non (nomark _)) (pe_one (pc (ok__law_parts M.mp) (hr.mono (by decide)) (by rfl) psb (pa_cons (pv 4) (pa_cons (pv 10) (pa_cons (pv 5) pa_nil)))))) pa_nil)))) (pg_name (i := 1) sc_law.nd rfl (.inl rfl)))
      (pss_cons (ps_expr (pe_bm PySem.F.plainAttrs_list PySem.F.slot_list_append PySem.F.type_list_append mt_append (pv 2) (pa_cons (pe_tup (pa_cons (pe_ix ix_tup (pv 10) pe_int (fun _ _ => rfl)) (pa_cons (pe_ix ix_tup (pv 10) pe_int (fun _ _ => rfl)) (pa_cons (pe_callB call_len_str (by rfl) M.g_len PySem.boot_len (pa_cons (pv 1) pa_nil)) pa_nil)))) pa_nil)))
      (pss_cons (ps_asg (pe_op op_add_str (pv 1) (pe_ix ix_tup (pv 10) pe_int (fun _ _ => rfl))) (pg_name (i := 1) sc_law.nd rfl (.inl rfl)))
      (pss_cons (ps_asg (pc (ok__law_opened M.mp) (hr.mono (by decide)) (by rfl) psb (pa_cons (pv 3) (pa_cons (pv 10) pa_nil))) (pg_name (i := 3) sc_law.nd rfl (.inl rfl)))
      (pss_one (ps_par (i := 4) (j := 5) (by rfl) sc_law.nd rfl rfl (by decide) rfl rfl (pa_cons (pv 10) (pa_cons (pv 9) pa_nil)) (by rfl))))))))))))))
      (pss_cons (ps_asg (pc (ok__law_bag M.mb) (hr.mono (by decide)) (by rfl) psb (pa_cons (pv 0) (pa_cons pe_int pa_nil))) (pg_name (i := 7) sc_law.nd rfl (.inl rfl)))
      (pss_cons (ps_asg (pe_ifExp (pt_cmpR op_eq (pc (ok_tk M.mb) (hr.mono (by decide)) (by rfl) psb (pa_cons (pv 7) (pa_cons pe_int pa_nil))) pe_int (nomark _)) (pc (ok__law_bad M.ms.mgg) (hr.mono (by decide)) (by rfl) psb (pa_cons (pv 7) pa_nil)) pe_non) (pg_name (i := 11) sc_law.nd rfl (.inl rfl)))
      (pss_one (ps_ret (pc (ok__law_right M.ms) (hr.mono (by decide)) (by rfl) psb (pa_cons (pv 1) (pa_cons (pv 2) (pa_cons (pv 11) pa_nil)))))))))), ?_⟩
    show tSeq _ _ _ [some (.ref a), none, none, none, none, none, none, none, none, none, none, none] H
    refine ⟨show 0 ≤ sizeLine by decide, fun d nd => ⟨show 0 ≤ sizeLine by decide, fun l nl => ⟨show 5 ≤ sizeLine by decide, fun tt nt => ?_⟩⟩⟩
    have sd : Same H (upd H d (HO.lst [])) := same_new nd
    have hd0 : upd H d (HO.lst []) d = some (HO.lst []) := upd_same
    have sl : Same H (upd (upd H d (HO.lst [])) l (HO.lst [])) := sd.trans (same_new nl)
    have hd1 := same_new nl (o := HO.lst []) _ _ hd0
    have hl1 : upd (upd H d (HO.lst [])) l (HO.lst []) l = some (HO.lst []) := upd_same
    have nld : l ≠ d := fun z => by
      rw [z, hd0] at nl
      cases nl
    refine ⟨tt, _, rfl, sqT upd_same, rfl, _, _, rfl, _, _, rfl, _, _, rfl, _, _, rfl, _, _, rfl, rfl, ?_⟩
    have st := same_new nt (o := HO.tup [S [], V.ref d, V.ref l, V.non, V.bl true])
    have C0 : Core K a (ns.map V.int) d l .non [] [] [] none true (upd (upd (upd H d (HO.lst [])) l (HO.lst [])) tt (HO.tup [S [], V.ref d, V.ref l, V.non, V.bl true])) :=
      ⟨(sl.trans st).seq hs, ⟨[], st _ _ hd1, .nil⟩, st _ _ hl1, nld, rfl, src_nil true, by decide, by decide, by decide, (fun t ht => by cases ht), keeps_of hs nd⟩
    generalize upd (upd (upd H d (HO.lst [])) l (HO.lst [])) tt (HO.tup [S [], V.ref d, V.ref l, V.non, V.bl true]) = H1 at C0 ⊢
    refine ⟨_, rfl, a, _, rfl, .inl C0.sc, _, _, rfl, _, _, rfl, _, rfl, ?_, ?_, ?_⟩
    · rw [List.length_map]
      split <;> split <;> omega
    · rw [List.length_map]
      split <;> split <;> omega
    have hn : (if (if (63 : Int) < (((ns.map V.int).length : Nat) : Int) then (63 : Int) else (((ns.map V.int).length : Nat) : Int)) > 1 then (if (63 : Int) < (((ns.map V.int).length : Nat) : Int) then (63 : Int) else (((ns.map V.int).length : Nat) : Int)) else 1).toNat ≤ 63 := by
      split <;> split <;> omega
    refine for_it walk_range (fun i σ G => OutInv K a (ns.map V.int) σ G) ⟨d, l, .non, [], [], [], none, true, none, none, none, none, none, rfl, C0⟩ (fun _ _ _ _ _ => trivial) ?_ ?_
    · rintro i x σ H2 H3 hi ⟨d, l, vl, src, due, wi, last, ahead, v6, v7, v8, v9, v10, rfl, C⟩ ⟨rfl, rfl⟩
      have hi' : i < 63 := Nat.lt_of_lt_of_le hi hn
      refine ⟨_, rfl, _, rfl, a, ns, 0 + (i : Int), rfl, C.sc, by omega, by omega, fun p H3 A0 B0 s3 np hp b0 b1 => ?_⟩
      have C3 := C.same s3
      have kp := keeps_of C.sc np
      refine ⟨_, rfl, by decide, by decide, ?_⟩
      refine for_it walk_range (fun j σ G => InInv K a (ns.map V.int) p (61 * (0 + (i : Int))) j σ G) ⟨d, l, vl, src, due, wi, last, ahead, _, v8, v9, v10, rfl, C3, ⟨A0, B0, _, hp, b0, b1, by omega, by omega⟩, kp⟩ (fun _ _ _ _ _ => trivial) ?_ ?_
      · rintro j x σ H4 H5 hj ⟨d, l, vl, src, due, wi, last, ahead, v6, v8, v9, v10, rfl, C, hb, kp⟩ ⟨rfl, rfl⟩
        have hj' : j < 12 := hj
        simp only [L2.tSeq, L2.tRet, L2.tVar, L2.tAnd, L2.tOr, L2.tNot, L2.tTest, L2.tOp, L2.tUn, L2.rU, L2.tCB, L2.tCons, L2.tNil, L2.rIxS, L2.rI0, L2.rI, L2.rEq, L2.rNe, L2.tAug, L2.ipI, L2.tC, L2.tIfS, L2.tIf, L2.tCall, L2.tAsg, L2.gName, L2.tSl, L2.rSlS, L2.tPart, L2.tNoPart, L2.tBM, L2.tBM0, L2.tB, L2.tAndV, L2.tOrV, L2.tNotV, L2.tDrop, L2.tNext, L2.tChain, L2.tPar, L2.tPar3, Cm.tErr, Cm.tGT, L2.tTup, L2.tLst,
  List.getElem?_cons_zero, List.getElem?_cons_succ, Option.some.injEq, exists_eq_left', exists_eq_left, exists_eq', exists_eq, exists_and_left, exists_and_right, exists_const, List.cons.injEq, and_true, true_and, L2.V.str.injEq, L2.V.int.injEq, L2.V.bl.injEq, L2.V.ref.injEq, PySem.Str.mk.injEq, Tx.arr1, Tx.str_len, Tx.at_nat, Tx.cut_nat, Tx.find_one,
  and_assoc, Int.ofNat_inj, Nat.add_sub_cancel_left, Lx.take1_eq, decide_eq_true_eq, Bool.not_eq_true', decide_eq_false_iff_not, Int.ofNat_lt, Int.ofNat_le, Bool.false_eq_true, if_false, if_true, List.set_cons_zero, List.set_cons_succ, List.append_nil, List.nil_append, ↓reduceIte, Cm.nat_succ, Cm.nat_add, Cm.nat_two, List.toList_toArray, not_true, not_false_iff, Cm.toArr_inj, Cm.two_one, Cm.tyV_str, Cm.scal_ss, Cm.scal_ii, Cm.scal_bb, Cm.cb_K, reduceCtorEq, false_and, exists_false, or_false, false_or, List.map_cons, List.map_nil, rIxT, tBreak]
        have csl := C.sl
        refine ⟨szl (by omega), ?_⟩
        split
        · exact ⟨d, l, vl, src, due, wi, last, ahead, v6, _, _, v9, v10, rfl, C⟩
        · rename_i hsrc
          have hs14 : src.length ≤ 1400 := by omega
          refine ⟨l, wi, vl, last, rfl, C.op, ?_, fun H5 s5 => ?_⟩
          · have := C.la
            cases last with
            | none => exact this
            | some v => exact this
          have C5 := C.same s5
          have hb5 := hb.same s5
          refine ⟨p, _, negB wi last, rfl, hb5, by omega, fun aw w H6 b6 hb6 hw hm ha6 => ?_⟩
          have C6 := C5.but b6 hb5 kp
          have cla := C6.la
          cases last with
          | some v =>
            obtain ⟨av, rfl, hav, hv⟩ := cla
            refine ifT (by simp) ?_
            refine ⟨av, aw, v, w, ahead, rfl, hav, ha6, hv, hw, fun H7a s7a => ?_⟩
            have C7a := C6.same s7a
            have hb7a := hb6.same s7a
            have ha7a : WdAt H7a aw w := s7a _ _ ha6
            refine ⟨p, _, (partsF v.kind v.text w.kind w.text ahead), rfl, hb7a, by omega, fun g H7 b7 hb7 hg hne => ?_⟩
            have C7 := C7a.but b7 hb7a kp
            have gl := hg.len
            have awp : aw ≠ p := fun z => by
              obtain ⟨A0, B0, C0, h0, _⟩ := hb7a
              have h1 : _ = some _ := ha7a
              rw [z, h0] at h1
              cases h1
            have ha7 : WdAt H7 aw w := b7 _ _ awp ha7a
            obtain ⟨ps, hd7, hp7⟩ := C7.du
            have e7 := paired_len hp7
            refine ⟨_, rfl, by rw [Tx.str_len]; exact szl (by omega), tyV_lst hd7, aw, rfl, _, sqT ha7, S w.kind, rfl, aw, rfl, _, sqT ha7, w.val, rfl, ?_⟩
            rw [str_app src g]
            refine ⟨by rw [Tx.str_len, List.length_append]; exact szl (by omega), show 3 ≤ sizeLine by decide, fun c nc => ?_⟩
            rw [Tx.str_len]
            have sc7 : Same H7 (upd H7 c (HO.tup [S w.kind, w.val, V.int (((src ++ g).length : Nat) : Int)])) := same_new nc
            have hc7 : upd H7 c (HO.tup [S w.kind, w.val, V.int (((src ++ g).length : Nat) : Int)]) c = some (HO.tup [S w.kind, w.val, V.int (((src ++ g).length : Nat) : Int)]) := upd_same
            generalize upd H7 c (HO.tup [S w.kind, w.val, V.int (((src ++ g).length : Nat) : Int)]) = H8 at sc7 hc7 ⊢
            have hd8 := sc7 _ _ hd7
            refine ⟨d, _, _, rfl, rfl, hd8, by rw [List.length_map, e7]; have := C7.dl; have := C7.sl; exact Nat.lt_of_le_of_lt (show due.length ≤ 1700 by omega) (by decide), ?_⟩
            have b9 : But d H8 (upd H8 d (HO.lst (ps.map V.ref ++ [V.ref c]))) := but_upd
            have hd9 : upd H8 d (HO.lst (ps.map V.ref ++ [V.ref c])) d = some (HO.lst (ps.map V.ref ++ [V.ref c])) := upd_same
            generalize upd H8 d (HO.lst (ps.map V.ref ++ [V.ref c])) = H9 at b9 hd9 ⊢
            have tupd : ∀ {q : Addr} {ys : List V}, H8 q = some (.tup ys) → q ≠ d := fun h z => by
              rw [z, hd8] at h
              cases h
            have ha9 : WdAt H9 aw w := b9 _ _ (tupd (sc7 _ _ ha7)) (sc7 _ _ ha7)
            have hl9 : H9 l = some (.lst (wi.map V.bl)) := b9 _ _ C7.ld (sc7 _ _ C7.op)
            have tl := wd_len hw
            have tne := List.length_pos_iff.mpr (beg hw).ne
            refine ⟨aw, rfl, _, sqT ha9, S w.text, rfl, _, rfl, by rw [Tx.str_len]; exact szl (by rw [List.length_append]; omega), ?_⟩
            refine ⟨l, aw, wi, w, rfl, hl9, ha9, hw, by have := C7.wl; have := C7.sl; omega, fun l' H10 s10 hl10 => ?_⟩
            rw [str_app]
            have hd10 := s10 _ _ hd9
            have fitw : Fits (due ++ [(w.kind, w.val, (src ++ g).length)]) := fun t ht => by
              rcases List.mem_append.mp ht with ht | ht
              · exact C7.ft t ht
              · rw [List.mem_singleton.mp ht]
                exact ⟨w, hw, rfl, rfl⟩
            have vfl : flatV w.val = true ∧ ∀ l, scal w.val (S l) = true := by
              cases w with
              | _ => exact ⟨rfl, fun _ => rfl⟩
            refine ⟨d, l', .ref aw, src ++ g ++ w.text, due ++ [(w.kind, w.val, (src ++ g).length)], openF wi w.kind w.text, some w, negB wi (some v), _, _, _, _, rfl, ⟨?_, ?_, hl10, ?_, ⟨aw, rfl, s10 _ _ ha9, hw⟩, C7.sr.step hw hm hg (fun e v' hv => by cases hv; cases q : partsF v.kind v.text w.kind w.text ahead with | false => rfl | true => exact absurd e (hne q)), ?_, ?_, ?_, fitw, C7.kd⟩, ?_, kp⟩
            · exact s10.seq (keeps_but C7.kd (sc7.seq C7.sc) b9)
            · refine ⟨ps ++ [c], by rw [hd10, List.map_append]; rfl, paired_snoc (Cm.Paired.imp (fun q t h => ⟨?_, h.2⟩) hp7) ⟨?_, vfl⟩⟩
              · exact s10 _ _ (b9 _ _ (tupd hc7) hc7)
              · exact s10 _ _ (b9 _ _ (tupd (sc7 _ _ h.1)) (sc7 _ _ h.1))
            · intro z
              rw [z, hd10] at hl10
              have hh := HO.lst.inj (Option.some.inj hl10)
              have hm2 : V.ref c ∈ (openF wi w.kind w.text).map V.bl := by
                rw [← hh]
                simp
              obtain ⟨_, _, e⟩ := List.mem_map.mp hm2
              cases e
            · rw [List.length_append, List.length_append]
              omega
            · have := C7.dl
              simp only [List.length_append, List.length_cons, List.length_nil]
              omega
            · have := C7.wl
              have := openF_len wi w.kind w.text
              rw [List.length_append, List.length_append]
              omega
            · obtain ⟨A0, B0, D0, h0, h1, h2, h3, h4⟩ := hb7
              have pd : p ≠ d := fun z => by
                rw [z, hd7] at h0
                cases ps <;> simp at h0
              exact ⟨A0, B0, D0, s10 _ _ (b9 _ _ pd (sc7 _ _ h0)), h1, h2, h3, by omega⟩
          | none =>
            refine ifF (fun z => z cla) ?_
            refine ⟨p, _, false, rfl, hb6, by omega, fun g H7 b7 hb7 hg hne => ?_⟩
            have C7 := C6.but b7 hb6 kp
            have gl := hg.len
            have awp : aw ≠ p := fun z => by
              obtain ⟨A0, B0, C0, h0, _⟩ := hb6
              have h1 : _ = some _ := ha6
              rw [z, h0] at h1
              cases h1
            have ha7 : WdAt H7 aw w := b7 _ _ awp ha6
            obtain ⟨ps, hd7, hp7⟩ := C7.du
            have e7 := paired_len hp7
            refine ⟨_, rfl, by rw [Tx.str_len]; exact szl (by omega), tyV_lst hd7, aw, rfl, _, sqT ha7, S w.kind, rfl, aw, rfl, _, sqT ha7, w.val, rfl, ?_⟩
            rw [str_app src g]
            refine ⟨by rw [Tx.str_len, List.length_append]; exact szl (by omega), show 3 ≤ sizeLine by decide, fun c nc => ?_⟩
            rw [Tx.str_len]
            have sc7 : Same H7 (upd H7 c (HO.tup [S w.kind, w.val, V.int (((src ++ g).length : Nat) : Int)])) := same_new nc
            have hc7 : upd H7 c (HO.tup [S w.kind, w.val, V.int (((src ++ g).length : Nat) : Int)]) c = some (HO.tup [S w.kind, w.val, V.int (((src ++ g).length : Nat) : Int)]) := upd_same
            generalize upd H7 c (HO.tup [S w.kind, w.val, V.int (((src ++ g).length : Nat) : Int)]) = H8 at sc7 hc7 ⊢
            have hd8 := sc7 _ _ hd7
            refine ⟨d, _, _, rfl, rfl, hd8, by rw [List.length_map, e7]; have := C7.dl; have := C7.sl; exact Nat.lt_of_le_of_lt (show due.length ≤ 1700 by omega) (by decide), ?_⟩
            have b9 : But d H8 (upd H8 d (HO.lst (ps.map V.ref ++ [V.ref c]))) := but_upd
            have hd9 : upd H8 d (HO.lst (ps.map V.ref ++ [V.ref c])) d = some (HO.lst (ps.map V.ref ++ [V.ref c])) := upd_same
            generalize upd H8 d (HO.lst (ps.map V.ref ++ [V.ref c])) = H9 at b9 hd9 ⊢
            have tupd : ∀ {q : Addr} {ys : List V}, H8 q = some (.tup ys) → q ≠ d := fun h z => by
              rw [z, hd8] at h
              cases h
            have ha9 : WdAt H9 aw w := b9 _ _ (tupd (sc7 _ _ ha7)) (sc7 _ _ ha7)
            have hl9 : H9 l = some (.lst (wi.map V.bl)) := b9 _ _ C7.ld (sc7 _ _ C7.op)
            have tl := wd_len hw
            have tne := List.length_pos_iff.mpr (beg hw).ne
            refine ⟨aw, rfl, _, sqT ha9, S w.text, rfl, _, rfl, by rw [Tx.str_len]; exact szl (by rw [List.length_append]; omega), ?_⟩
            refine ⟨l, aw, wi, w, rfl, hl9, ha9, hw, by have := C7.wl; have := C7.sl; omega, fun l' H10 s10 hl10 => ?_⟩
            rw [str_app]
            have hd10 := s10 _ _ hd9
            have fitw : Fits (due ++ [(w.kind, w.val, (src ++ g).length)]) := fun t ht => by
              rcases List.mem_append.mp ht with ht | ht
              · exact C7.ft t ht
              · rw [List.mem_singleton.mp ht]
                exact ⟨w, hw, rfl, rfl⟩
            have vfl : flatV w.val = true ∧ ∀ l, scal w.val (S l) = true := by
              cases w with
              | _ => exact ⟨rfl, fun _ => rfl⟩
            refine ⟨d, l', .ref aw, src ++ g ++ w.text, due ++ [(w.kind, w.val, (src ++ g).length)], openF wi w.kind w.text, some w, negB wi none, _, _, _, _, rfl, ⟨?_, ?_, hl10, ?_, ⟨aw, rfl, s10 _ _ ha9, hw⟩, C7.sr.step hw hm hg (fun _ v hv => by cases hv), ?_, ?_, ?_, fitw, C7.kd⟩, ?_, kp⟩
            · exact s10.seq (keeps_but C7.kd (sc7.seq C7.sc) b9)
            · refine ⟨ps ++ [c], by rw [hd10, List.map_append]; rfl, paired_snoc (Cm.Paired.imp (fun q t h => ⟨?_, h.2⟩) hp7) ⟨?_, vfl⟩⟩
              · exact s10 _ _ (b9 _ _ (tupd hc7) hc7)
              · exact s10 _ _ (b9 _ _ (tupd (sc7 _ _ h.1)) (sc7 _ _ h.1))
            · intro z
              rw [z, hd10] at hl10
              have hh := HO.lst.inj (Option.some.inj hl10)
              have hm2 : V.ref c ∈ (openF wi w.kind w.text).map V.bl := by
                rw [← hh]
                simp
              obtain ⟨_, _, e⟩ := List.mem_map.mp hm2
              cases e
            · rw [List.length_append, List.length_append]
              omega
            · have := C7.dl
              simp only [List.length_append, List.length_cons, List.length_nil]
              omega
            · have := C7.wl
              have := openF_len wi w.kind w.text
              rw [List.length_append, List.length_append]
              omega
            · obtain ⟨A0, B0, D0, h0, h1, h2, h3, h4⟩ := hb7
              have pd : p ≠ d := fun z => by
                rw [z, hd7] at h0
                cases ps <;> simp at h0
              exact ⟨A0, B0, D0, s10 _ _ (b9 _ _ pd (sc7 _ _ h0)), h1, h2, h3, by omega⟩
      · rintro σ H4 ⟨d, l, vl, src, due, wi, last, ahead, v6, v8, v9, v10, rfl, C, hb, kp⟩
        exact ⟨d, l, vl, src, due, wi, last, ahead, v6, _, v8, v9, v10, rfl, C⟩
    · rintro σ H2 ⟨d, l, vl, src, due, wi, last, ahead, v6, v7, v8, v9, v10, rfl, C⟩
      simp only [L2.tSeq, L2.tRet, L2.tVar, L2.tAnd, L2.tOr, L2.tNot, L2.tTest, L2.tOp, L2.tUn, L2.rU, L2.tCB, L2.tCons, L2.tNil, L2.rIxS, L2.rI0, L2.rI, L2.rEq, L2.rNe, L2.tAug, L2.ipI, L2.tC, L2.tIfS, L2.tIf, L2.tCall, L2.tAsg, L2.gName, L2.tSl, L2.rSlS, L2.tPart, L2.tNoPart, L2.tBM, L2.tBM0, L2.tB, L2.tAndV, L2.tOrV, L2.tNotV, L2.tDrop, L2.tNext, L2.tChain, L2.tPar, L2.tPar3, Cm.tErr, Cm.tGT, L2.tTup, L2.tLst,
  List.getElem?_cons_zero, List.getElem?_cons_succ, Option.some.injEq, exists_eq_left', exists_eq_left, exists_eq', exists_eq, exists_and_left, exists_and_right, exists_const, List.cons.injEq, and_true, true_and, L2.V.str.injEq, L2.V.int.injEq, L2.V.bl.injEq, L2.V.ref.injEq, PySem.Str.mk.injEq, Tx.arr1, Tx.str_len, Tx.at_nat, Tx.cut_nat, Tx.find_one,
  and_assoc, Int.ofNat_inj, Nat.add_sub_cancel_left, Lx.take1_eq, decide_eq_true_eq, Bool.not_eq_true', decide_eq_false_iff_not, Int.ofNat_lt, Int.ofNat_le, Bool.false_eq_true, if_false, if_true, List.set_cons_zero, List.set_cons_succ, List.append_nil, List.nil_append, ↓reduceIte, Cm.nat_succ, Cm.nat_add, Cm.nat_two, List.toList_toArray, not_true, not_false_iff, Cm.toArr_inj, Cm.two_one, Cm.tyV_str, Cm.scal_ss, Cm.scal_ii, Cm.scal_bb, Cm.cb_K, reduceCtorEq, false_and, exists_false, or_false, false_or, List.map_cons, List.map_nil]
      refine ⟨a, ns, 0, rfl, C.sc, by decide, by decide, fun p H3 A0 B0 s3 np hp b0 b1 => ?_⟩
      have C3 := C.same s3
      have kp := keeps_of C.sc np
      have hb3 : Bag 0 H3 p := ⟨A0, B0, _, hp, b0, b1, by decide, by decide⟩
      refine ⟨p, 0, 2, rfl, hb3, by decide, by decide, by decide, fun j H4 b4 hb4 hj => ⟨rfl, ?_⟩⟩
      have C4 := C3.but b4 hb3 kp
      have csl := C.sl
      have cdl := C.dl
      have rd := C.sr.read (by omega)
      split
      · refine ⟨p, _, rfl, hb4, by decide, fun ab b q H5 b5 hb5 hB hab => ?_⟩
        have C5 := C4.but b5 hb4 kp
        exact ⟨src, d, .ref ab, due, rfl, by omega, C5.du, by omega, C.ft, rd, .inr ⟨ab, b, q, rfl, hab, hB.len, C.sr.bad (by omega) hB⟩, kk⟩
      · exact ⟨src, d, .non, due, rfl, by omega, C4.du, by omega, C.ft, rd, .inl rfl, kk⟩
end
end W
/-! the head's facts: defs, constants, own error classes -/
namespace Hd
open PySem PySem.Spec PyProof.Rows L2 Cm He
/-- the j-th statement of a class -/
def clsAt (st : Stmt) (j : Nat) : Stmt := match st with
  | .ClassDef _ _ _ body _ _ _ _ _ _ _ => body.getD j (.Pass ⟨0, 0, 0, 0⟩)
  | _ => .Pass ⟨0, 0, 0, 0⟩
abbrev FnC : Type := Option (Str × Str × Arguments × FuncBody × Scope × Addr × List Str × Addr)
def fnC (K : PySem.W.Frag) (a : Addr) : FnC := match K.lookup a with
  | some ⟨_, _, .func fd, _⟩ => some (fd.name, fd.qualname, fd.params, fd.body, fd.scope, fd.globals, fd.closure.map (·.1), fd.builtins)
  | _ => none
/-- an own error class of one field: its name, the field, the __init__ -/
structure ErrD where
  x : Str
  f : Str
  qual : Str
  st : Stmt
def ErrD.val (d : ErrD) : FnC := some ("__init__", d.qual, defArgs d.st, .stmts (defBody d.st), defScope d.st, mainGlobals, ["__class__"], builtinsNs)
def oexB (K : PySem.W.Frag) (C : Addr) : Bool := match K.lookup C with
  | some ⟨.type t, _, .cls cd, sl⟩ => (match cd.mro, sl.toList with
    | .ref C' :: bm, [_, _, _, _, some (.builtin n), _] => decide (t = "type") && (decide (C' = C) && (decide (n = "ValueError.__new__") && (!cd.hasDel && (cd.hasDict && PySem.HandSPX.refsVE bm))))
    | _, _ => false)
  | _ => false
theorem oexB_ok {K : PySem.W.Frag} {C : Addr} (h : oexB K C = true) : ∃ nm q N bs bm sn sub ab col dd k0 k1 k2 k3 k5, K.lookup C = some (excClassObj nm q C N bs bm true sn sub ab col dd k0 k1 k2 k3 k5 "ValueError.__new__") ∧ PySem.HandSPX.refsVE bm = true := by
  unfold oexB at h
  split at h
  · rename_i t dd cd sl ho
    split at h
    · rename_i C' bm k0 k1 k2 k3 n k5 hm hs
      simp only [Bool.and_eq_true, decide_eq_true_eq, Bool.not_eq_true'] at h
      obtain ⟨rfl, rfl, rfl, hdel, hdict, hv⟩ := h
      obtain ⟨nm, bs, mro, ns, qn, hd, sn, sub, ab, col, del⟩ := cd
      dsimp only at hm hdel hdict
      subst hm hdel hdict
      have hsl : sl = #[k0, k1, k2, k3, some (.builtin "ValueError.__new__"), k5] := by
        obtain ⟨l⟩ := sl
        simp only at hs
        rw [hs]
      subst hsl
      exact ⟨nm, qn, ns, bs, bm, sn, sub, ab, col, dd, k0, k1, k2, k3, k5, ho, hv⟩
    · cases h
  · cases h
/-- the cell and the code of an __init__ -/
def iniB (P : Program) (K : PySem.W.Frag) (C fI : Addr) (qual : Str) : Bool := match K.lookup fI with
  | some ⟨_, _, .func fd, _⟩ => (match fd.closure, fd.code, fd.defaults with
    | [(_, cc)], .ref cda, .none => (match K.lookup cc, K.lookup cda with
      | some ⟨_, _, .cell (some (.ref C')), _⟩, some ⟨_, _, .fields vs, _⟩ => (match (vs[2]? : Option Value) with
        | some (.str file _) => decide (C' = C) && (((P.main.file : Str) == file) && PySem.W.codeIn K (.ref cda) qual)
        | _ => false)
      | _, _ => false)
    | _, _, _ => false)
  | _ => false
def errB (P : Program) (K : PySem.W.Frag) (d : ErrD) : Bool :=
  oexB K (ga K d.x) && (eqO (PySem.W.findIn K (.ref (ga K d.x)) "__setattr__") (some (some (.builtin "object.__setattr__"))) &&
  (decide (PySem.W.subIn K (.ref (ga K d.x)) (.type "BaseException") = some true) && (decide (PySem.W.typeIn K (.ref (ga K d.x)) = some (.type "type")) && (PySem.W.keepIn K (.ref (ga K d.x)) &&
  (eqO (PySem.W.findIn K (.ref (ga K d.x)) "__init__") (some (some (.ref (ma K (ga K d.x) "__init__")))) && (decide (PySem.W.typeIn K (.ref (ma K (ga K d.x) "__init__")) = some (.type "function")) &&
  (iniB P K (ga K d.x) (ma K (ga K d.x) "__init__") d.qual && (decide (PySem.W.mroIn K (ga K d.x) (.ref (ga K d.x)) = some true) && (eqO (PySem.W.nsIn K cStatics "thirdparty.any") (some none) &&
  (eqO (PySem.W.ks_superIn K (ga K d.x) (ga K d.x) "__init__") (some (some (.builtin "ValueError.__init__"))) && (decide (PySem.W.subIn K (.ref (ga K d.x)) (.type "ValueError") = some true) &&
  (xfB K (ga K d.x) && (eqO (PySem.W.findIn K (.ref (ga K d.x)) d.f) (some none) && decide (PySem.W.exmOne K (.ref (ga K d.x)) (.ref (ga K d.x)) = some true))))))))))))))
/-- what the __init__ promises -/
abbrev spIni (C : Addr) (f : Str) : Sp := fun vs H Q _ => ∃ (a : Addr) (v : V), vs = [.ref a, v] ∧ H a = some (exo a C none) ∧ ∀ dx, H dx = none → dx ≠ a → Q .non (upd (upd H dx (exd dx [(f, v)])) a (exo a C (some dx)))
/-- what is to be shown of an __init__'s text, once each -/
def IniOk (d : ErrD) : Prop := ∀ (P : Program) (w : World) (K : PySem.W.Frag) (mg : Str → Option Value) (base : Heap) (C cc cda fI : Addr) (dV kV doc pm ct oc : Value) (an od : Option Addr) (osl : Array (Option Value)),
  Xs.SupC P K mg C cc cda → OexC K C → PySem.W.findIn K (.ref C) d.f = some none → PySem.W.codeIn K (.ref cda) d.qual = true →
  K.lookup fI = some ⟨oc, od, .func (PySem.W.fnX "__init__" d.qual (defArgs d.st) (defBody d.st) (defScope d.st) [("__class__", cc)] dV kV doc pm an (.ref cda) ct), osl⟩ →
  FnOk P w K mg base CX0 1 fI (PySem.W.fnX "__init__" d.qual (defArgs d.st) (defBody d.st) (defScope d.st) [("__class__", cc)] dV kV doc pm an (.ref cda) ct) ["self", d.f] (spIni C d.f)
/-- and that it binds its two parameters -/
def IniB (d : ErrD) : Prop := ∀ (cc : Addr) (kV doc pm cdv ct : Value) (an : Option Addr) (us : List Value), us.length = 2 → bindArgs (PySem.W.fnX "__init__" d.qual (defArgs d.st) (defBody d.st) (defScope d.st) [("__class__", cc)] .none kV doc pm an cdv ct) ⟨us, []⟩ = pure ((["self", d.f] : List Str).zip us)
theorem errB_ok {P : Program} {w : World} {K : PySem.W.Frag} {mg : Str → Option Value} {base : Heap} {d : ErrD} (h : errB P K d = true) (e : fnC K (ma K (ga K d.x) "__init__") = d.val) (hI : IniOk d) (hB : IniB d) (hm : mg d.x = some (.ref (ga K d.x))) (hs : mg "super" = none)
    (ht : (P.main.scope.names.lookup ("super" : Str)).isSome = false) : Err1 P w K mg base d.x d.f (ga K d.x) := by
  unfold errB at h
  simp only [Bool.and_eq_true, decide_eq_true_eq] at h
  obtain ⟨h1, h2, h3, h4, h5, h6, h7, h8, h9, h10, h11, h12, h13, h14, h15⟩ := h
  have T : OexC K (ga K d.x) := ⟨oexB_ok h1, eqO_ok h2, h3, h4, h5⟩
  generalize ma K (ga K d.x) "__init__" = fI at h6 h7 h8 e
  unfold iniB at h8
  split at h8
  · rename_i oc od fd osl lk
    split at h8
    · rename_i y cc cda q1 q2 q3
      split at h8
      · rename_i z1 z2 C' z3 z4 z5 vs z6 l1 l2
        split at h8
        · rename_i file tf hv
          simp only [Bool.and_eq_true, decide_eq_true_eq] at h8
          obtain ⟨rfl, hf, hc⟩ := h8
          unfold fnC at e
          rw [lk] at e
          obtain ⟨n1, n2, n3, n4, n5, n6, n7, n8, n9, n10, n11, n12, n13, n14, n15⟩ := fd
          dsimp only at q1 q2 q3
          subst q1 q2 q3
          have e2 : (some (n1, n2, n3, n4, n5, n6, [y], n15) : FnC) = (some (("__init__" : Str), d.qual, defArgs d.st, FuncBody.stmts (defBody d.st), defScope d.st, mainGlobals, [("__class__" : Str)], builtinsNs) : FnC) := e
          simp only [Option.some.injEq, Prod.mk.injEq, List.cons.injEq, and_true] at e2
          obtain ⟨g1, g2, g3, g4, g5, g6, g7, g8⟩ := e2
          subst g1 g2 g3 g4 g5 g6 g7 g8
          have S : Xs.SupC P K mg (ga K d.x) cc cda := ⟨⟨_, _, _, l1⟩, ⟨_, _, _, _, _, _, l2, hv, hf⟩, h9, hs, eqO_ok h10, eqO_ok h11, h12, ht⟩
          refine ⟨hm, T, ⟨fI, _, eqO_ok h6, h7, ?_, hI P w K mg base (ga K d.x) cc cda fI _ _ _ _ _ _ _ _ _ S T (eqO_ok h14) hc lk⟩, xfB_ok h13, eqO_ok h14, h15⟩
          exact Binds.all fun us hl => hB cc _ _ _ _ _ _ us hl
        · cases h8
      · cases h8
    · cases h8
  · cases h8
/-! ### the Hook -/
def asX (g : Addr → Option Obj) (n : Nat) : List Addr := cStatics :: asD g n
abbrev AlX : Type := AlD × Bool × List FnC
def obsX (P : Program) (fa : List Fa) (fn : List DefD) (er : List ErrD) (tu : List (Str × List (List Nat))) (K : PySem.W.Frag) : AlX := (obsD fa fn K, (er.all fun d => errB P K d) && tu.all fun t => tupB K t.1 (t.2.map fun l => Dv.str ⟨l.toArray⟩), er.map fun d => fnC K (ma K (ga K d.x) "__init__"))
def valX (fn : List DefD) (er : List ErrD) : AlX := (valD fn, true, er.map ErrD.val)
def SaysX (P : Program) (fa : List Fa) (fn : List DefD) (er : List ErrD) (tu : List (Str × List (List Nat))) (K : PySem.W.Frag) : Prop := obsX P fa fn er tu K = valX fn er
def obsXG (P : Program) (n : Nat) (fa : List Fa) (fn : List DefD) (er : List ErrD) (tu : List (Str × List (List Nat))) (g : Addr → Option Obj) : AlX := obsX P fa fn er tu (frG g (asX g n))
def hookX (P : Program) (n : Nat) (fa : List Fa) (fn : List DefD) (er : List ErrD) (tu : List (Str × List (List Nat))) : PySem.W.Hook where
  α := AlX
  obs := fun s => obsXG P n fa fn er tu s.heap.get?
  val := fun _ => valX fn er
  says := fun _ h => ∃ K : PySem.W.Frag, K.In h ∧ SaysX P fa fn er tu K
  of := fun _ _ e => ⟨_, frG_in, e⟩
  keeps := fun _ _ _ ⟨K, hK, c⟩ k => ⟨K, PySem.W.Frag.In.keeps hK k, c⟩
theorem obsXG_eq {P : Program} {n : Nat} {fa : List Fa} {fn : List DefD} {er : List ErrD} {tu : List (Str × List (List Nat))} {g : Addr → Option Obj} {s : Shared} (h : ∀ a, g a = s.heap.get? a) : obsXG P n fa fn er tu g = (hookX P n fa fn er tu).obs s := by
  have e : g = s.heap.get? := funext h
  rw [e] <;> rfl
section
variable {P : Program} {w : World} {fa : List Fa} {fn : List DefD} {er : List ErrD} {tu : List (Str × List (List Nat))} {K : PySem.W.Frag} {h : Heap} {mg : Str → Option Value} {base : Heap}
theorem SaysX.d (c : SaysX P fa fn er tu K) : SaysD fa fn K := congrArg (fun z : AlX => z.1) c
theorem SaysX.both (c : SaysX P fa fn er tu K) : (er.all fun d => errB P K d) = true ∧ (tu.all fun t => tupB K t.1 (t.2.map fun l => Dv.str ⟨l.toArray⟩)) = true := ba (congrArg (fun z : AlX => z.2.1) c)
theorem SaysX.err (c : SaysX P fa fn er tu K) (i : Nat) {d : ErrD} (hi : er[i]? = some d := by rfl) : errB P K d = true ∧ fnC K (ma K (ga K d.x) "__init__") = d.val := by
  refine ⟨List.all_eq_true.mp c.both.1 d (List.mem_of_getElem? hi), ?_⟩
  have e : er.map (fun d => fnC K (ma K (ga K d.x) "__init__")) = er.map ErrD.val := congrArg (fun z : AlX => z.2.2) c
  have e2 : (er.map fun d => fnC K (ma K (ga K d.x) "__init__"))[i]? = (er.map ErrD.val)[i]? := by rw [e]
  rw [List.getElem?_map, List.getElem?_map, hi] at e2
  exact Option.some.inj e2
def dOf (x : Str) (st : Stmt) : DefD := ⟨(x, none), x, x, defArgs st, defBody st, defScope st, [], []⟩
theorem SaysX.atD (c : SaysX P fa fn er tu K) (X : K.In h) (G : h.Ns mainGlobals mg) (i : Nat) {x : Str} {st : Stmt} (h1 : fa[i]? = some (.glo x) := by rfl) (h2 : fn[i]? = some (dOf x st) := by rfl) : At K mg x st := by
  obtain ⟨fd, F⟩ := c.d.def_ i h2
  exact ⟨_, fd, F, glo_ok X G (c.d.fact i h1)⟩
theorem SaysX.free (c : SaysX P fa fn er tu K) (X : K.In h) (G : h.Ns mainGlobals mg) (i : Nat) {x : Str} (h1 : fa[i]? = some (.free x) := by rfl) : mg x = none := free_ok X G (c.d.fact i h1)
theorem SaysX.int (c : SaysX P fa fn er tu K) (X : K.In h) (G : h.Ns mainGlobals mg) (i : Nat) {x : Str} {n : Int} (h1 : fa[i]? = some (.int x n) := by rfl) : GInt mg x n := int_ok X G (c.d.fact i h1)
theorem SaysX.str (c : SaysX P fa fn er tu K) (X : K.In h) (G : h.Ns mainGlobals mg) (i : Nat) {x : Str} {l : List Nat} (h1 : fa[i]? = some (.str x ⟨l.toArray⟩) := by rfl) : GStr mg x l := str_ok X G (c.d.fact i h1)
theorem SaysX.glo (c : SaysX P fa fn er tu K) (X : K.In h) (G : h.Ns mainGlobals mg) (i : Nat) {x : Str} (h1 : fa[i]? = some (.glo x) := by rfl) : mg x = some (.ref (ga K x)) := glo_ok X G (c.d.fact i h1)
theorem SaysX.tup (c : SaysX P fa fn er tu K) (X : K.In h) (G : h.Ns mainGlobals mg) (i j : Nat) {x : Str} {l : List (List Nat)} (h1 : fa[i]? = some (.glo x) := by rfl) (h2 : tu[j]? = some (x, l) := by rfl) : GTup K mg x (l.map S) := by
  refine ⟨_, c.glo X G i h1, fun H => ?_⟩
  have := tupB_ok (List.all_eq_true.mp c.both.2 _ (List.mem_of_getElem? h2)) H
  rw [List.map_map] at this
  exact this
end
end Hd
namespace W
open PySem PySem.Spec PyProof.Rows L2 Cm Lx
abbrev i_BadSource : Stmt := Hd.clsAt (topS 2) 0
def e_BadSource : Hd.ErrD := ⟨"BadSource", "place", "BadSource.__init__", i_BadSource⟩
theorem ss_BadSource : Xs.SupSc ["self", "place"] (defScope i_BadSource) := ⟨rfl, rfl, rfl, by decide +kernel, by decide +kernel, by decide +kernel, by decide +kernel, rfl, rfl⟩
theorem ini_BadSource : Hd.IniOk e_BadSource := by
  intro P w K mg base C cc cda fI dV kV doc pm ct oc an od osl S T no hc lk
  refine Xs.fn_super (C := C) (cc := cc) (cda := cda) (ar := (defArgs i_BadSource).args.headD default) ss_BadSource S T lk hc rfl rfl (fun L => rfl) (fun L => rfl) (fun L => rfl) (fun vs H Q E h => ?_) (fun A outer s H vs Q E hr h => ?_)
  · obtain ⟨a, v, rfl, _⟩ := h
    rfl
  · obtain ⟨a, v, rfl, ha, k⟩ := h
    refine ⟨a, _, rfl, ha, pss_one (ps_ost (pv 0) (pv 1)), ?_⟩
    exact ⟨_, rfl, _, rfl, a, C, rfl, T, no, .inl ⟨ha, k⟩⟩
theorem inb_BadSource : Hd.IniB e_BadSource := fun cc kV doc pm cdv ct an us hl => match us, hl with
  | [_, _], _ => rfl
def hfn : List He.DefD := ([Hd.dOf "run_end" (topS 16), Hd.dOf "name_end" (topS 17), Hd.dOf "keyword_end" (topS 18), Hd.dOf "keywords_end" (topS 19), Hd.dOf "string_end" (topS 20), Hd.dOf "string_of" (topS 21), Hd.dOf "first_of" (topS 22), Hd.dOf "symbol_end" (topS 23), Hd.dOf "symbol_word" (topS 24), Hd.dOf "name_word" (topS 25), Hd.dOf "string_word" (topS 26), Hd.dOf "integer_end" (topS 27), Hd.dOf "sign_word" (topS 28), Hd.dOf "word_at" (topS 29), Hd.dOf "comment_end" (topS 30), Hd.dOf "may_be_negative" (topS 31), Hd.dOf "note_sign" (topS 32), Hd.dOf "words_in" (topS 33), Hd.dOf "words_of" (topS 34), Hd.dOf "is_written" (topS 8), Hd.dOf "_law_bag" (topS 36), Hd.dOf "_law_take" (topS 37), Hd.dOf "_law_pick" (topS 38), Hd.dOf "_law_name" (topS 39), Hd.dOf "_law_text" (topS 40), Hd.dOf "_law_string" (topS 41), Hd.dOf "_law_operator" (topS 42), Hd.dOf "_law_integer" (topS 43), Hd.dOf "_law_symbol" (topS 44), Hd.dOf "_law_one" (topS 45)] : List He.DefD) ++ ([Hd.dOf "_law_parts" (topS 46), Hd.dOf "_law_opened" (topS 47), Hd.dOf "_law_negative" (topS 48), Hd.dOf "_law_gap" (topS 49), Hd.dOf "_law_bad" (topS 50), Hd.dOf "_law_told" (topS 51), Hd.dOf "_law_same" (topS 52), Hd.dOf "_law_right" (topS 53), Hd.dOf "law" (topS 54)] : List He.DefD)
def hfa : List He.Fa := ([.glo "run_end", .glo "name_end", .glo "keyword_end", .glo "keywords_end", .glo "string_end", .glo "string_of", .glo "first_of", .glo "symbol_end", .glo "symbol_word", .glo "name_word", .glo "string_word", .glo "integer_end", .glo "sign_word", .glo "word_at", .glo "comment_end", .glo "may_be_negative", .glo "note_sign", .glo "words_in", .glo "words_of", .glo "is_written", .glo "_law_bag", .glo "_law_take", .glo "_law_pick", .glo "_law_name", .glo "_law_text", .glo "_law_string", .glo "_law_operator", .glo "_law_integer", .glo "_law_symbol", .glo "_law_one"] : List He.Fa) ++ ([.glo "_law_parts", .glo "_law_opened", .glo "_law_negative", .glo "_law_gap", .glo "_law_bad", .glo "_law_told", .glo "_law_same", .glo "_law_right", .glo "law", .free "len", .free "max", .free "int", .free "all", .free "isinstance", .free "str", .free "range", .free "zip", .free "min", .free "sum", .free "tuple", .free "list", .free "bool", .free "super", .int "MOST_NAME" (40), .int "MOST_SIGNS" (2000), .int "MOST_DIGITS" (60), .str "LETTERS" ⟨kLETTERS.toArray⟩, .str "DIGITS" ⟨kDIGITS.toArray⟩, .str "NAME_SIGNS" ⟨kNAME_SIGNS.toArray⟩, .glo "OPERATORS_FIRST"] : List He.Fa) ++ ([.glo "SIGNS_FIRST", .glo "ENDS", .glo "CLOSING", .glo "BadSource"] : List He.Fa)
def her : List Hd.ErrD := [e_BadSource]
def htu : List (Str × List (List Nat)) := [("OPERATORS_FIRST", kOPERATORS_FIRST), ("SIGNS_FIRST", kSIGNS_FIRST), ("ENDS", kENDS), ("CLOSING", kCLOSING)]
abbrev R : PySem.W.OpenRow := PySem.W.OpenLaw.row PySem.Challenge.rw_imagetalk_k01_words_put_together
abbrev hk : PySem.W.Hook := Hd.hookX PySem.Challenge.pw_imagetalk_k01_words_put_together 5 hfa hfn her htu
def ob (s : PySem.W.SharedT) : Hd.AlX := Hd.obsXG PySem.Challenge.pw_imagetalk_k01_words_put_together 5 hfa hfn her htu (HandSHeadRun.getT s)
theorem ob_eq (s : PySem.W.SharedT) : ob s = hk.obs s.abs := Hd.obsXG_eq (HandSHeadRun.getT_eq s)
def loose : List Str := (["__name__", "TalkError", "BadSource", "MOST_NAME", "LETTERS", "DIGITS", "NAME_SIGNS", "is_written", "MOST_SIGNS", "MOST_DIGITS", "OPERATORS_FIRST", "SIGNS_FIRST", "ENDS", "CLOSING", "run_end", "name_end", "keyword_end", "keywords_end", "string_end", "string_of", "first_of", "symbol_end", "symbol_word", "name_word", "string_word", "integer_end", "sign_word", "word_at", "comment_end", "may_be_negative"] : List Str) ++ (["note_sign", "words_in", "words_of", "_law_bag", "_law_take", "_law_pick", "_law_name", "_law_text", "_law_string", "_law_operator", "_law_integer", "_law_symbol", "_law_one", "_law_parts", "_law_opened", "_law_negative", "_law_gap", "_law_bad", "_law_told", "_law_same", "_law_right"] : List Str)
theorem run (w : World) : HandSHeadRun.RunEq R (PySem.W.view R.prog [54]) hk ob 6000 loose w := by
  intro os
  kernel_rfl
theorem facts {w : World} {K : PySem.W.Frag} {h : Heap} {mg : Str → Option Value} (X : K.In h) (G : h.Ns mainGlobals mg) (c : Hd.SaysX PySem.Challenge.pw_imagetalk_k01_words_put_together hfa hfn her htu K) (base : Heap) : Ml PySem.Challenge.pw_imagetalk_k01_words_put_together w K mg base (He.ga K "BadSource") :=
  { mb := { a__law_bag := c.atD X G 20, a__law_take := c.atD X G 21, a__law_pick := c.atD X G 22, g_len := c.free X G 39, g_max := c.free X G 40, g_int := c.free X G 41, g_sum := c.free X G 48 }, mp := { a__law_parts := c.atD X G 30, a__law_opened := c.atD X G 31, a__law_negative := c.atD X G 32 }, mo := { mb := { a__law_bag := c.atD X G 20, a__law_take := c.atD X G 21, a__law_pick := c.atD X G 22, g_len := c.free X G 39, g_max := c.free X G 40, g_int := c.free X G 41, g_sum := c.free X G 48 }, mn := { mb := { a__law_bag := c.atD X G 20, a__law_take := c.atD X G 21, a__law_pick := c.atD X G 22, g_len := c.free X G 39, g_max := c.free X G 40, g_int := c.free X G 41, g_sum := c.free X G 48 }, a__law_name := c.atD X G 23, a__law_text := c.atD X G 24, a__law_string := c.atD X G 25, a__law_operator := c.atD X G 26, a__law_integer := c.atD X G 27, g_range := c.free X G 45, g_int := c.free X G 41 }, a__law_symbol := c.atD X G 28, a__law_one := c.atD X G 29, g_range := c.free X G 45 }, ms := { md := { a_run_end := c.atD X G 0, a_name_end := c.atD X G 1, a_keyword_end := c.atD X G 2, a_keywords_end := c.atD X G 3, a_string_end := c.atD X G 4, a_string_of := c.atD X G 5, a_first_of := c.atD X G 6, a_symbol_end := c.atD X G 7, a_symbol_word := c.atD X G 8, a_name_word := c.atD X G 9, a_string_word := c.atD X G 10, a_integer_end := c.atD X G 11, a_sign_word := c.atD X G 12, a_word_at := c.atD X G 13, a_comment_end := c.atD X G 14, a_may_be_negative := c.atD X G 15, a_note_sign := c.atD X G 16, a_words_in := c.atD X G 17, a_words_of := c.atD X G 18, a_is_written := c.atD X G 19, g_len := c.free X G 39, g_max := c.free X G 40, g_int := c.free X G 41, g_all := c.free X G 42, g_isinstance := c.free X G 43, g_str := c.free X G 44, g_range := c.free X G 45, g_zip := c.free X G 46, g_min := c.free X G 47, g_sum := c.free X G 48, g_tuple := c.free X G 49, c_MOST_NAME := c.int X G 53, c_LETTERS := c.str X G 56, c_DIGITS := c.str X G 57, c_NAME_SIGNS := c.str X G 58, c_MOST_SIGNS := c.int X G 54, c_MOST_DIGITS := c.int X G 55, c_OPERATORS_FIRST := c.tup X G 59 0, c_SIGNS_FIRST := c.tup X G 60 1, c_ENDS := c.tup X G 61 2, c_CLOSING := c.tup X G 62 3, x_BadSource := Hd.errB_ok (d := e_BadSource) (c.err 0).1 (c.err 0).2 ini_BadSource inb_BadSource (c.glo X G 63) (c.free X G 52) (by kernel_rfl) }, mgg := { mb := { a__law_bag := c.atD X G 20, a__law_take := c.atD X G 21, a__law_pick := c.atD X G 22, g_len := c.free X G 39, g_max := c.free X G 40, g_int := c.free X G 41, g_sum := c.free X G 48 }, mn := { mb := { a__law_bag := c.atD X G 20, a__law_take := c.atD X G 21, a__law_pick := c.atD X G 22, g_len := c.free X G 39, g_max := c.free X G 40, g_int := c.free X G 41, g_sum := c.free X G 48 }, a__law_name := c.atD X G 23, a__law_text := c.atD X G 24, a__law_string := c.atD X G 25, a__law_operator := c.atD X G 26, a__law_integer := c.atD X G 27, g_range := c.free X G 45, g_int := c.free X G 41 }, md := { a_run_end := c.atD X G 0, a_name_end := c.atD X G 1, a_keyword_end := c.atD X G 2, a_keywords_end := c.atD X G 3, a_string_end := c.atD X G 4, a_string_of := c.atD X G 5, a_first_of := c.atD X G 6, a_symbol_end := c.atD X G 7, a_symbol_word := c.atD X G 8, a_name_word := c.atD X G 9, a_string_word := c.atD X G 10, a_integer_end := c.atD X G 11, a_sign_word := c.atD X G 12, a_word_at := c.atD X G 13, a_comment_end := c.atD X G 14, a_may_be_negative := c.atD X G 15, a_note_sign := c.atD X G 16, a_words_in := c.atD X G 17, a_words_of := c.atD X G 18, a_is_written := c.atD X G 19, g_len := c.free X G 39, g_max := c.free X G 40, g_int := c.free X G 41, g_all := c.free X G 42, g_isinstance := c.free X G 43, g_str := c.free X G 44, g_range := c.free X G 45, g_zip := c.free X G 46, g_min := c.free X G 47, g_sum := c.free X G 48, g_tuple := c.free X G 49, c_MOST_NAME := c.int X G 53, c_LETTERS := c.str X G 56, c_DIGITS := c.str X G 57, c_NAME_SIGNS := c.str X G 58, c_MOST_SIGNS := c.int X G 54, c_MOST_DIGITS := c.int X G 55, c_OPERATORS_FIRST := c.tup X G 59 0, c_SIGNS_FIRST := c.tup X G 60 1, c_ENDS := c.tup X G 61 2, c_CLOSING := c.tup X G 62 3, x_BadSource := Hd.errB_ok (d := e_BadSource) (c.err 0).1 (c.err 0).2 ini_BadSource inb_BadSource (c.glo X G 63) (c.free X G 52) (by kernel_rfl) }, a__law_gap := c.atD X G 33, a__law_bad := c.atD X G 34, a__law_told := c.atD X G 35 }, a__law_same := c.atD X G 36, a__law_right := c.atD X G 37, g_isinstance := c.free X G 43, g_list := c.free X G 50, g_tuple := c.free X G 49, g_bool := c.free X G 51, g_str := c.free X G 44, g_int := c.free X G 41, g_len := c.free X G 39, g_zip := c.free X G 46 }, a_law := c.atD X G 38, g_range := c.free X G 45, g_max := c.free X G 40, g_min := c.free X G 47, g_len := c.free X G 39 }
end W
namespace Hd
open PySem PySem.Spec PyProof.Rows L2 Cm
/-- none is let out -/
theorem fn_cx0 {P : Program} {w : World} {K : PySem.W.Frag} {mg : Str → Option Value} {base : Heap} {k : Nat} {f : Addr} {fd : FuncData} {ps : List Str} {sp : Sp} (h : FnOk P w K mg base (L2.CX P w) k f fd ps sp) :
    FnOk P w K mg base CX0 k f fd ps (fun vs H Q _ => sp vs H Q fun _ _ _ => False) :=
  ⟨fun vs H Q _ q => h.len vs H Q _ q, fun A outer s H args us vs Q E hr e0 hb r hsp => codeAny_mono (h.run A outer s H args us vs Q (fun _ _ _ => False) hr e0 hb r hsp) fun r s' q => by
    cases r with
    | error e =>
      obtain ⟨_, _, _, _, _, _, _, _, _, _, _, _, z⟩ := q
      exact z.elim
    | ok fl => cases fl <;> exact q⟩
end Hd
open PySem PySem.W PySem.Calls PyProof.Rows
theorem PySem.Challenge.cw_imagetalk_k01_words_put_together_holds : PySem.Challenge.rw_imagetalk_k01_words_put_together.Holds := by
  w_on; o_law
  refine HandSHeadRun.head_any (r := OpenLaw.row PySem.Challenge.rw_imagetalk_k01_words_put_together) (q := view (OpenLaw.row PySem.Challenge.rw_imagetalk_k01_words_put_together).prog [54]) (H := W.hk) (ob := W.ob) (M := 6000) (loose := W.loose) (d := HandSHeadRun.topDef (OpenLaw.row PySem.Challenge.rw_imagetalk_k01_words_put_together).prog 54) (kwd := []) W.ob_eq
    (by kernel_rfl) (fun s => by kernel_rfl) W.run (by kernel_rfl) (by kernel_rfl) (by kernel_rfl) (by rfl) (by first | assumption | decide +kernel) (by decide +kernel) ⟨rfl, rfl, rfl, rfl, rfl, by decide +kernel⟩ ?hw ?hc
  case hw => w_witness2
  case hc =>
    refine L2.walk_ofE (l := PySem.Challenge.rw_imagetalk_k01_words_put_together) (n := 63) (k := 13) (x := "_law_script") (CX := L2.CX0) rfl (by decide) (by kernel_rfl) ⟨rfl, by decide, by decide⟩ ?F (fun _ _ _ _ z => z)
    intro w mg fa h Y G hmg0
    obtain ⟨K, KX, c⟩ := Y
    have hmg : mg ("law" : PySem.Str) = some (.ref fa) := by
      have e : (HandSHeadRun.topDef (OpenLaw.row PySem.Challenge.rw_imagetalk_k01_words_put_together).prog 54).name = ("law" : PySem.Str) := by kernel_rfl
      rw [← e]
      exact hmg0
    have ok := fun base => W.ok_law (W.facts (w := w) KX G c base)
    obtain ⟨f, fd, F, h1⟩ := (W.facts (w := w) KX G c h).a_law
    have ef : f = fa := by
      rw [h1] at hmg
      cases hmg
      rfl
    subst ef
    obtain ⟨oc, od, dV, kV, doc, pm, an, cdv, ct, osl, efd, h5, hcd, hD, hK⟩ := id F.ex
    refine ⟨K, fd, fun vs H Q _ => W.spLaw K vs H Q fun _ _ _ => False, KX, fun s u => ?_, fun H a ns hl _ hS => ⟨a, ns, rfl, hS, fun _ => rfl⟩, fun base KX' G' => ?_⟩
    · have b := L2.FunD.bindsA (ps := ["_law_script"]) F fun _ _ _ _ _ _ us hl => match us, hl with | [_], _ => rfl
      exact b s [u] rfl
    · obtain ⟨f', fd', g1, g2, g3, g4, oc, od, osl, g5⟩ := ok base
      rw [h1] at g1
      cases g1
      rw [g5] at h5
      cases h5
      exact Hd.fn_cx0 g4
