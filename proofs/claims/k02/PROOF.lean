import PyProof.Rows.All
import Wide.All
import OpenK.AllK
import Wide.FinOn
import KE.KExcSuper
import HandS.ForMost
import HandS.ForExc
import HandS.ExcInit
import HandS.Defaults
import HandS.Replace
import HandS.ReplaceDef
import HandS.StrMore
import HandS.ReplaceList
import HandS.ExcField
import KE.IntTextLaws
import HandS.Walk
import HandS.ReplaceLit
import HandS.IsInst
import HandS.Style
import HandS.Codes
import HandS.Wide
import KE.KStateDown
import HandS.Words
import HandS.WordsExc
import HandS.Head0
import HandS.Head1
import HandS.Head2
import HandS.HeadEnd
import HandS.HeadHook1
import HandS.HeadHook2
import PySem.Challenge.RW_imagetalk_k02_words_at_their_edges
set_option Elab.async false
set_option linter.all false
set_option maxRecDepth 100000
set_option maxHeartbeats 0
/-! own exception classes below ValueError whose __init__ begins with super().__init__(text) -/
namespace Xs
open PySem PySem.Spec PyProof.Rows L2

theorem zip_rev_lookup : ∀ {ps : List Str} {us : List Value} {i : Nat} {x : Str} {u : Value}, ps.Nodup → ps[i]? = some x → us[i]? = some u →
    ((ps.zip us).reverse).lookup x = some u
  | [], _, i, x, _, _, e, _ => by simp at e
  | _ :: _, [], i, _, _, _, _, e => by simp at e
  | p :: ps, w :: us, 0, x, u, nd, e1, e2 => by
    simp at e1 e2
    subst e1 e2
    rw [List.zip_cons_cons, List.reverse_cons, List.lookup_append]
    have hn : ((ps.zip us).reverse).lookup p = none := by
      rw [List.lookup_eq_none_iff]
      intro q hq
      have hm : q.1 ∈ ps := (List.of_mem_zip (List.mem_reverse.mp hq)).1
      have : p ≠ q.1 := fun z => (List.nodup_cons.mp nd).1 (z ▸ hm)
      simpa using this
    rw [hn]
    simp
  | p :: ps, w :: us, i + 1, x, u, nd, e1, e2 => by
    rw [List.zip_cons_cons, List.reverse_cons, List.lookup_append, zip_rev_lookup (i := i) (List.nodup_cons.mp nd).2 (by simpa using e1) (by simpa using e2)]
    rfl

/-- what the written part tells of the class C, the cell of its __init__ and that one's code -/
structure SupC (P : Program) (K : PySem.W.Frag) (mg : Str → Option Value) (C cc cda : Addr) : Prop where
  cell : ∃ cl cld csl, K.lookup cc = some ⟨cl, cld, .cell (some (.ref C)), csl⟩
  code : ∃ ccl cdd vs ccs file tf, K.lookup cda = some ⟨ccl, cdd, .fields vs, ccs⟩ ∧ vs[2]? = some (.str file tf) ∧ ((P.main.file : Str) == file) = true
  mro : PySem.W.mroIn K C (.ref C) = some true
  sup : mg "super" = none
  opq : PySem.W.nsIn K cStatics "thirdparty.any" = some none
  ini : PySem.W.ks_superIn K C C "__init__" = some (some (.builtin "ValueError.__init__"))
  ve : PySem.W.subIn K (.ref C) (.type "ValueError") = some true
  top : (P.main.scope.names.lookup ("super" : Str)).isSome = false

/-- what is asked of the __init__'s scope -/
structure SupSc (ps : List Str) (sc : Scope) : Prop where
  kind : sc.kind = .function
  co : sc.isCoroutine = false
  gen : sc.isGenerator = false
  nd : ps.Nodup
  par : ∀ x ∈ ps, sc.names.lookup x = some .local
  nocell : ∀ y ∈ sc.names, y.2 ≠ .cell
  free : ∀ y ∈ sc.names, y.2 = .free → y.1 = ("__class__" : Str)
  sup : sc.names.lookup ("super" : Str) = some .globalImplicit
  cls : sc.names.lookup ("__class__" : Str) = some .free

/-- the context of the body -/
def cxS (P : Program) (w : World) (K : PySem.W.Frag) (mg : Str → Option Value) (base : Heap) (N : List Str) (qual : Str) (scope : Scope) (f cc : Addr) (cd : Value) (A : Around) (outer : List Env) (s : Shared) (H : Hp) : Cx where
  prog := P
  w := w
  K := K
  mg := mg
  base := base
  A := A.deeper (PySem.W.envX qual scope s.heap.objs.size f cd [("__class__", cc)])
  N := N
  s_0 := s
  H_0 := H
  env := PySem.W.envX qual scope s.heap.objs.size f cd [("__class__", cc)]
  outer := outer
  stack := PySem.W.envX qual scope s.heap.objs.size f cd [("__class__", cc)] :: outer
  ex := []
  calm := true
  fn := fun _ => false
  pn := []
  xe := fun _ _ => False

theorem one_lookup {k x : Str} {a c : Addr} (h : [(k, a)].lookup x = some c) : x = k ∧ c = a := by
  simp only [List.lookup] at h
  split at h
  · rename_i e
    exact ⟨by simpa using e, (Option.some.inj h).symm⟩
  · cases h

section
variable {P : Program} {w : World} {K : PySem.W.Frag} {mg : Str → Option Value} {base : Heap} {C cc cda f : Addr} {ps : List Str} {qual : Str} {scope : Scope} {A : Around} {outer : List Env} {s : Shared} {H : Hp} {vs : List V} {us : List Value}
theorem inv_sup {h1 : Heap} {tk : Nat} (Sc : SupSc ps scope) (S : SupC P K mg C cc cda) (hd : A.handled = none) (e0 : Env0 P w K mg base A outer s H) (hl : vs.length = ps.length) (r : Vals vs us)
    (hns : h1.Ns s.heap.objs.size (fun x => (ps.zip us).reverse.lookup x)) (hk : ∀ b o, s.heap.get? b = some o → h1.get? b = some o) :
    Inv (cxS P w K mg base ps qual scope f cc (.ref cda) A outer s H) [] (vs.map some) H { s with heap := h1, toks := tk } := by
  obtain ⟨cl, cld, csl, hcell⟩ := S.cell
  have cb : base.get? cc = some _ := e0.mod.kin _ _ hcell
  have cs : s.heap.get? cc = some _ ∧ H cc = none := e0.bs _ _ cb
  have no : ∀ b : Addr, b ∉ (cxS P w K mg base ps qual scope f cc (.ref cda) A outer s H).ex := fun b z => absurd (show b ∈ ([] : List Addr) from z) (by simp)
  have ok : (cxS P w K mg base ps qual scope f cc (.ref cda) A outer s H).Ok :=
    { mod := e0.mod, kind := Sc.kind, glob := rfl, blt := rfl, above := Nat.le_refl _
      inj := fun x y c h1 h2 => (one_lookup h1).1.trans (one_lookup h2).1.symm
      has := fun x hx => by
        have hx' : scope.names.lookup x = some .cell ∨ scope.names.lookup x = some .free := hx
        rcases hx' with z | z
        · exact absurd rfl (Sc.nocell _ (PySem.mem_of_lookup z))
        · have e := Sc.free _ (PySem.mem_of_lookup z) rfl
          have e' : x = ("__class__" : Str) := e
          subst e'
          exact ⟨cc, rfl⟩
      cab := fun x c z => by cases z
      hd := fun _ => hd, frames := Around.frames_deeper e0.frames, stk := .inr ⟨rfl, rfl⟩, exf := fun b z => absurd z (no b), bs := e0.bs, bsz := e0.bsz
      noex := fun b _ _ => no b, exfs := fun b z => absurd z (no b), funs := e0.funs, frf := e0.frf }
  refine { ok := ok, os := rfl, bare := e0.bare, base := Un.kept hk, loc := ⟨_, hns, fun i x v e1 e2 e3 => ?_⟩, cell := fun x c e => ?_, free := e0.hok.fresh (Nat.le_refl _), freeC := fun x c e => ?_, pin := fun p hp => absurd (show p ∈ ([] : List (Addr × Obj)) from hp) (by simp), hok := e0.hok.kept hk, len := by rw [List.length_map]; exact hl }
  · have ha : vs[i]? = some v := by
      rw [List.getElem?_map] at e2
      cases q : vs[i]? with
      | none => rw [q] at e2; cases e2
      | some y => rw [q] at e2; cases e2; rfl
    obtain ⟨u, hu, rv⟩ := r.get ha
    have e1' : ps[i]? = some x := e1
    exact ⟨u, rv, .inl ⟨Sc.par x (List.mem_of_getElem? e1'), zip_rev_lookup Sc.nd e1' hu⟩⟩
  · obtain ⟨_, rfl⟩ := one_lookup e
    exact ⟨_, _, hk _ _ cs.1, rfl⟩
  · obtain ⟨_, rfl⟩ := one_lookup e
    exact cs.2
end
end Xs
namespace Xs
open PySem PySem.Spec PyProof.Rows L2
section
variable {P : Program} {w : World} {K : PySem.W.Frag} {mg : Str → Option Value} {base : Heap} {C cc cda f : Addr} {ps : List Str} {qual : Str} {scope : Scope} {A : Around} {outer : List Env} {s s1 : Shared} {H : Hp} {σ : L2.St} {a : Addr}

/-- the bound ValueError.__init__ is called -/
theorem call_mw {X : Cx} {pins : List (Addr × Obj)} {B : Around} {E : Value → Shared → Prop} {u : Addr} {us : List Value} {Q : Value → Shared → Prop} (T : OexC X.K C) (I : Inv X pins σ H s1) (e : H a = some (exo a C none)) (hu : s1.heap.get? u = some (PySem.W.kxs_mw "ValueError.__init__" a))
    (hz : us.length ≤ sizeLine) (q : ∀ s2, Inv X pins σ H s2 → Q .none s2) : wpAny (model X.prog X.w) B (call (.ref u) us) Q E s1 := by
  obtain ⟨nm, qn, N, bs, bm, sn, sub, ab, col, dd, k0, k1, k2, k3, k5, hC, hbm⟩ := T.cls
  obtain ⟨t1, ho⟩ := exo_at I.hok e
  obtain ⟨hp, g, d, t, os⟩ := s1
  refine wpAny_call (codeAny_of_tree ?_)
  show wpAny _ B.in1 (callAny (.ref u) ⟨us, []⟩) _ _ _
  simp only [callAny]
  refine wpAny_bind (wpAny_load hu ?_)
  simp only []
  refine PySem.W.KFB.if_so (by decide) ?_
  refine wpAny_bind (PySem.W.check_bound_init PySem.F.excBase_ValueError.toExcCallFacts (I.kIn _ _ hC) ho rfl ?_)
  refine wpAny_bind (wpAny_pure (wpAny_pure ?_))
  refine ⟨plainId_quiet PySem.F.excBase_ValueError.init.plain _, codeAny_builtin PySem.F.excBase_ValueError.initEntry ?_⟩
  refine PySem.W.exc_init_tree (cls := .ref C) (t0 := t1) (dv := none) (c2 := .none) (c3 := .none) (b4 := .bool false) ho hz fun h' kp hx _ => ?_
  have J := I.write (t' := t) (x := a) (e := a) (o := exo a C none) (by rw [e]; exact True.intro) (.inl rfl) kp ⟨_, hx⟩ (exo_ok hx)
  have eu : upd H a (exo a C none) = H := by
    funext b
    by_cases hb : b = a
    · rw [hb, upd_same, e]
    · rw [upd_ne hb]
  rw [eu] at J
  exact q _ J

theorem sup_init {body : List Stmt} {p0 p1 p2 p3 p4 p5 : Pos} {m : Str} {j : Nat} {fd : FuncData} {ar : Arg} {oc : Value} {od : Option Addr} {osl : Array (Option Value)} (Sc : SupSc ps scope) (S : SupC P K mg C cc cda) (T : OexC K C)
    (lk : K.lookup f = some ⟨oc, od, .func fd, osl⟩) (hp : (fd.params.posonlyargs ++ fd.params.args).head? = some ar) (hps : ps[0]? = some ar.arg)
    (I : Inv (cxS P w K mg base ps qual scope f cc (.ref cda) A outer s H) [] σ H s1) (h0 : σ[0]? = some (some (.ref a))) (e : H a = some (exo a C none)) {pl : Sem Bool}
    (hev : eval (.Call (.Attribute (.Call (.Name "super" p0) [] [] p1) "__init__" p2) [.Constant (.str m) j p3] [] p4) (PySem.W.envX qual scope s.heap.objs.size f (.ref cda) [("__class__", cc)]) = (do
      let ov ← attributeBase (.Call (.Name "super" p0) [] [] p1) "__init__" (PySem.W.envX qual scope s.heap.objs.size f (.ref cda) [("__class__", cc)]) (eval (.Call (.Name "super" p0) [] [] p1) (PySem.W.envX qual scope s.heap.objs.size f (.ref cda) [("__class__", cc)]))
      standAt p2.atName
      let (fx, first) ← holding [ov] (getMethod ov "__init__" pl)
      callWith p4 fx first (backTo p4 (starEach [.Constant (.str m) j p3] (PySem.W.envX qual scope s.heap.objs.size f (.ref cda) [("__class__", cc)]))) []))
    (hi : interactive (PySem.W.envX qual scope s.heap.objs.size f (.ref cda) [("__class__", cc)]) = false)
    (hs : swapsWith (.Call (.Attribute (.Call (.Name "super" p0) [] [] p1) "__init__" p2) [.Constant (.str m) j p3] [] p4) none p5.line (PySem.W.envX qual scope s.heap.objs.size f (.ref cda) [("__class__", cc)]) = pure false) :
    PySem.wpAt (model P w) (cxS P w K mg base ps qual scope f cc (.ref cda) A outer s H).A (.func body (cxS P w K mg base ps qual scope f cc (.ref cda) A outer s H).env)
      (exec (.Expr (.Call (.Attribute (.Call (.Name "super" p0) [] [] p1) "__init__" p2) [.Constant (.str m) j p3] [] p4) p5) (cxS P w K mg base ps qual scope f cc (.ref cda) A outer s H).env)
      (fun fl s2 => fl = .next ∧ Inv (cxS P w K mg base ps qual scope f cc (.ref cda) A outer s H) [] σ H s2) (fun _ _ => False) s1 := by
  have X0 : K.In s1.heap := I.kIn
  obtain ⟨cl, cld, csl, hcell⟩ := S.cell
  obtain ⟨ccl, cdd, vsc, ccs, file, tf, hcode, hvs, hfile⟩ := S.code
  obtain ⟨nm, qn, N, bs, bm, sn, sub, ab, col, dd, k0, k1, k2, k3, k5, hC, hbm⟩ := T.cls
  obtain ⟨t1, ho⟩ := exo_at I.hok e
  obtain ⟨m1, hn, hl⟩ := id I.loc
  have ex0 : ps[0]? = some ar.arg := hps
  obtain ⟨u0, ru, lu⟩ := hl 0 ar.arg (.ref a) ex0 h0 (.inl (Sc.par _ (List.mem_of_getElem? hps)))
  obtain rfl : u0 = Value.ref a := ru
  have hv : m1 ar.arg = some (.ref a) := by
    rcases lu with ⟨_, z⟩ | ⟨z, _⟩
    · exact z
    · have q : scope.names.lookup ar.arg = some .local := Sc.par _ (List.mem_of_getElem? hps)
      have z' : scope.names.lookup ar.arg = some .cell ∨ scope.names.lookup ar.arg = some .free := z
      rw [q] at z'
      rcases z' with z' | z' <;> cases z'
  obtain ⟨mb, b1, b2⟩ := I.mod.blt
  have hnoc : ∀ c, ({ cls := .ref C, dict := none, data := .fields #[.ref t1, .none, .none, .none, .bool false, .none] } : Obj).data ≠ .cls c := fun c z => by cases z
  have hcl : PySem.W.clsIn K C = some { name := nm, bases := bs, mro := .ref C :: bm, ns := N, qualname := qn, hasDict := true, slotNames := sn, subclasses := sub, abstract := ab, collection := col, hasDel := false } := by unfold PySem.W.clsIn; rw [hC] <;> rfl
  have IA : PySem.W.InstAt s1.heap a { cls := .ref C, dict := none, data := .fields #[.ref t1, .none, .none, .none, .bool false, .none] } C none := ⟨ho, rfl, rfl, trivial⟩
  obtain ⟨hp1, g, d, t, os⟩ := s1
  refine PySem.ks_wpAt_Expr_any (PySem.ks_wpAt_MethodCall ?_ hev) hi hs
  refine PySem.ks_wpAt_super_base (env := (cxS P w K mg base ps qual scope f cc (.ref cda) A outer s H).env) Sc.sup Sc.cls (by decide) rfl (X0 _ _ lk) rfl hp rfl (X0 _ _ hcode) rfl hvs hfile S.top ?_
  refine PySem.W.ks_loadName_global Sc.kind Sc.sup (Calls.loadGlobal_builtin (env := (cxS P w K mg base ps qual scope f cc (.ref cda) A outer s H).env) (I.mod.glob.keeps I.bk) S.sup (b1.keeps I.bk) ((b2 _ (by decide)).trans (show bootBuiltins ("super" : Str) = some (.type "super") from by first | rfl | kernel_rfl)) ⟨rfl, ?_⟩)
  refine wpAny_loadName_free Sc.kind Sc.cls rfl ⟨_, X0 _ _ hcell, rfl⟩ ?_
  refine wpAny_loadName_local Sc.kind (Sc.par _ (List.mem_of_getElem? hps)) hn hv ?_
  have hCo := X0 _ _ hC
  refine PySem.ks_wpAny_isType_cls hCo rfl ⟨rfl, ?_⟩
  refine PySem.ks_wpAny_call_super hCo rfl ho rfl hnoc (PySem.W.looks_mroIn X0 S.mro) (fun h' e1 kp => ?_)
  have I1 : Inv (cxS P w K mg base ps qual scope f cc (.ref cda) A outer s H) [] σ H ⟨h', g, d, t, os⟩ := I.kept (t' := t) kp
  have ho1 := kp _ _ ho
  have IA1 : PySem.W.InstAt h' a { cls := .ref C, dict := none, data := .fields #[.ref t1, .none, .none, .none, .bool false, .none] } C none := ⟨ho1, rfl, rfl, trivial⟩
  have hsi := S.ini
  unfold PySem.W.ks_superIn at hsi
  rw [hcl] at hsi
  refine PySem.W.kxs_getMethod PySem.W.kxs_ValueError e1 (PySem.W.looks_opaque I1.kIn S.opq) (l₀ := .ref C :: bm) ?_ rfl I1.kIn hsi (IA1.type.andThen (PySem.W.looks_subIn I1.kIn S.ve)) (PySem.W.ks_ne I1.kIn IA1 hcl) (by decide) ?_
  · exact fun B Q E s k q => wpAny_bind ((PySem.W.looks_clsIn I1.kIn hcl) B _ E s k (wpAny_pure q))
  have I2 : Inv (cxS P w K mg base ps qual scope f cc (.ref cda) A outer s H) [] σ H ⟨h'.push (PySem.W.kxs_mw "ValueError.__init__" a), g, d, t + 1, os⟩ := I1.kept (t' := t + 1) fun b u z => Heap.get?_push_of_some _ z
  have hmw : (h'.push (PySem.W.kxs_mw "ValueError.__init__" a)).get? h'.objs.size = some (PySem.W.kxs_mw "ValueError.__init__" a) := Heap.get?_push_at rfl rfl
  have fr : H h'.objs.size = none := I1.hok.fresh (Nat.le_refl _)
  have I3 : Inv (cxS P w K mg base ps qual scope f cc (.ref cda) A outer s H) [(h'.objs.size, PySem.W.kxs_mw "ValueError.__init__" a)] σ H ⟨h'.push (PySem.W.kxs_mw "ValueError.__init__" a), g, d, t + 1, os⟩ :=
    I2.pins_of fun p hp => by
      rw [List.mem_singleton] at hp
      subst hp
      exact ⟨hmw, fr, (Nat.ne_of_lt I1.lt).symm, I1.nofs (Nat.le_refl _), fun v z => by cases z⟩
  refine PySem.W.kxs_callWith (i := "ValueError.__init__") (x := a) rfl ?_
  refine PySem.Calls.evalArgs_plain ?_
  have pa : PA (cxS P w K mg base ps qual scope f cc (.ref cda) A outer s H) [.Constant (.str m) j p3] (tCons (tC (.str m)) tNil) := pa_cons pe_str pa_nil
  refine wpAny_mono (pa.run p4 _ _ σ H (fun vs H1 => vs = [V.str m] ∧ H = H1) I3 ⟨rfl, rfl⟩) (fun us s2 hh => ?_) (fun _ _ z => z)
  obtain ⟨vs, H1, J, rv, ev, eH⟩ := hh
  subst eH
  subst ev
  have hu := (J.pin _ (List.mem_append_right _ List.mem_cons_self)).1
  refine ⟨hu, ?_⟩
  refine call_mw (X := cxS P w K mg base ps qual scope f cc (.ref cda) A outer s H) T (J.pins_of (pins' := []) fun p hp => absurd hp (by simp)) e hu (by show us.length ≤ sizeLine; rw [← Paired.length rv]; show 1 ≤ sizeLine; decide) fun s3 J3 => ⟨rfl, J3⟩
/-- THE RULE: such an __init__ by the rest of its body -/
theorem fn_super {k : Nat} {sp : Sp} {p0 p1 p2 p3 p4 p5 : Pos} {m name : Str} {j : Nat} {rest : List Stmt} {params : Arguments} {ar : Arg} {dV kV doc pm ct oc : Value} {an od : Option Addr} {osl : Array (Option Value)} {pl : Addr → Sem Bool}
    (Sc : SupSc ps scope) (S : SupC P K mg C cc cda) (T : OexC K C)
    (lk : K.lookup f = some ⟨oc, od, .func (PySem.W.fnX name qual params (.Expr (.Call (.Attribute (.Call (.Name "super" p0) [] [] p1) "__init__" p2) [.Constant (.str m) j p3] [] p4) p5 :: rest) scope [("__class__", cc)] dV kV doc pm an (.ref cda) ct), osl⟩)
    (hcd : PySem.W.codeIn K (.ref cda) qual = true) (hp : (params.posonlyargs ++ params.args).head? = some ar) (hps : ps[0]? = some ar.arg)
    (hev : ∀ L, eval (.Call (.Attribute (.Call (.Name "super" p0) [] [] p1) "__init__" p2) [.Constant (.str m) j p3] [] p4) (PySem.W.envX qual scope L f (.ref cda) [("__class__", cc)]) = (do
      let ov ← attributeBase (.Call (.Name "super" p0) [] [] p1) "__init__" (PySem.W.envX qual scope L f (.ref cda) [("__class__", cc)]) (eval (.Call (.Name "super" p0) [] [] p1) (PySem.W.envX qual scope L f (.ref cda) [("__class__", cc)]))
      standAt p2.atName
      let (fx, first) ← holding [ov] (getMethod ov "__init__" (pl L))
      callWith p4 fx first (backTo p4 (starEach [.Constant (.str m) j p3] (PySem.W.envX qual scope L f (.ref cda) [("__class__", cc)]))) []))
    (hi : ∀ L, interactive (PySem.W.envX qual scope L f (.ref cda) [("__class__", cc)]) = false)
    (hs : ∀ L, swapsWith (.Call (.Attribute (.Call (.Name "super" p0) [] [] p1) "__init__" p2) [.Constant (.str m) j p3] [] p4) none p5.line (PySem.W.envX qual scope L f (.ref cda) [("__class__", cc)]) = pure false)
    (len : ∀ vs H Q E, sp vs H Q E → vs.length = ps.length)
    (hbody : ∀ (A : Around) (outer : List Env) (s : Shared) (H : Hp) (vs : List V) (Q : VK) (E : XK), Room k (A.deeper (PySem.W.envX qual scope s.heap.objs.size f (.ref cda) [("__class__", cc)])) → sp vs H Q E →
      ∃ (a : Addr) (t : TS), vs[0]? = some (.ref a) ∧ H a = some (exo a C none) ∧ PSs (cxS P w K mg base ps qual scope f cc (.ref cda) A outer s H) rest t ∧ t { nx := fun _ H' => Q .non H', rt := Q } (vs.map some) H) :
    FnOk P w K mg base CX0 (k + 1) f (PySem.W.fnX name qual params (.Expr (.Call (.Attribute (.Call (.Name "super" p0) [] [] p1) "__init__" p2) [.Constant (.str m) j p3] [] p4) p5 :: rest) scope [("__class__", cc)] dV kV doc pm an (.ref cda) ct) ps sp := by
  refine ⟨len, fun A outer s H args us vs Q E hr e0 hb r hsp => ?_⟩
  have hl := len _ _ _ _ hsp
  have KX : K.In s.heap := e0.mod.kin.keeps fun b o e => (e0.bs b o e).1
  have lim : s.heap.NoLimit := e0.mod.nolimit.keeps fun b o e => (e0.bs b o e).1
  obtain ⟨a, t, ha0, hea, ht, hq⟩ := hbody A outer s H vs Q E (hr.deeper _) hsp
  refine PySem.ks_codeAny_call_defAt (fd := PySem.W.fnX name qual params (.Expr (.Call (.Attribute (.Call (.Name "super" p0) [] [] p1) "__init__" p2) [.Constant (.str m) j p3] [] p4) p5 :: rest) scope [("__class__", cc)] dV kV doc pm an (.ref cda) ct)
    hr.depth (KX _ _ lk) rfl lim (PySem.W.codeRec_of KX hcd) rfl hb Sc.nocell (fun y hy => Sc.par _ (List.of_mem_zip hy).1) (fun h1 hns hk => ?_) Sc.co Sc.gen Sc.kind
  have I := inv_sup (w := w) (base := base) (f := f) (qual := qual) (tk := s.toks + (ps.zip us).length) Sc S hr.hd e0 hl r hns hk
  have h0 : (vs.map some)[0]? = some (some (V.ref a)) := by rw [List.getElem?_map, ha0]; rfl
  refine PySem.ks_wpAt_execs_cons (PySem.ks_wpAt_mono (sup_init (w := w) Sc S T lk hp hps I h0 hea (hev _) (hi _) (hs _)) (fun fl s2 z => ?_) fun e s2 z => z.elim)
  obtain ⟨rfl, J⟩ := z
  refine PySem.wpAt_of_wpAny (wpAny_mono (ht.run [] s2 (vs.map some) H _ J hq) (fun fl s3 hs3 => ?_) fun e s3 z => False.elim z)
  have fin : ∀ {τ : L2.St} {H' : Hp} {v : V} {u : Value}, Inv (cxS P w K mg base ps qual scope f cc (.ref cda) A outer s H) [] τ H' s3 → RelV v u → Q v H' → CE outer P w H s Q u s3 :=
    fun {τ H' v u} J rv q => ⟨v, H', J.os, J.bare, J.base, J.hok, rv, q⟩
  cases fl with
  | ret u =>
    obtain ⟨v, τ, H', J3, rv, q⟩ := hs3
    exact fin J3 rv q
  | next =>
    obtain ⟨τ, H', J3, q⟩ := hs3
    exact fin J3 (v := .non) rfl q
  | brk =>
    obtain ⟨τ, H', J3, q⟩ := hs3
    exact q.elim
  | cont =>
    obtain ⟨τ, H', J3, q⟩ := hs3
    exact q.elim
end
end Xs
namespace Cm
open PySem PySem.Spec PyProof.Rows L2
/-- the def of the module's name x keeps its promise at level k -/
def Ok (P : Program) (w : World) (K : PySem.W.Frag) (mg : Str → Option Value) (base : Heap) (k : Nat) (x : Str) (ps : List Str) (sp : Sp) : Prop :=
  ∃ (f : Addr) (fd : FuncData), mg x = some (.ref f) ∧ PySem.W.keepIn K (.ref f) = true ∧ Binds K fd ps [] ∧ FnOk P w K mg base (L2.CX P w) k f fd ps sp ∧ ∃ oc od osl, K.lookup f = some ⟨oc, od, .func fd, osl⟩
theorem Ok.mono {P : Program} {w : World} {K : PySem.W.Frag} {mg : Str → Option Value} {base : Heap} {j k : Nat} {x : Str} {ps : List Str} {sp : Sp} (O : Ok P w K mg base j x ps sp) (h : j ≤ k) : Ok P w K mg base k x ps sp := by
  obtain ⟨f, fd, h1, h2, h3, h4, h5⟩ := O
  exact ⟨f, fd, h1, h2, h3, h4.mono h, h5⟩
theorem Ok.imp {P : Program} {w : World} {K : PySem.W.Frag} {mg : Str → Option Value} {base : Heap} {k : Nat} {x : Str} {ps : List Str} {sp sp' : Sp} (O : Ok P w K mg base k x ps sp) (h : ∀ vs H Q E, sp' vs H Q E → sp vs H Q E) : Ok P w K mg base k x ps sp' := by
  obtain ⟨f, fd, h1, h2, h3, h4, h5⟩ := O
  exact ⟨f, fd, h1, h2, h3, h4.imp h, h5⟩
section
variable {X : Cx} {k : Nat} {x : Str} {ps : List Str} {sp : Sp} {E : XK} {p pos : Pos} {e : Expr} {es : List Expr} {t : TA}
theorem pc (O : Ok X.prog X.w X.K X.mg X.base k x ps sp) (hr : Room k X.A) (hg : Gl X x) (hx : Passes (L2.CX X.prog X.w) X E) (ha : PA X (e :: es) t)
    (hdb : (x == ("__debug__" : Str)) = false := by decide) (he : starEach (e :: es) X.env = (false, eval e X.env) :: starEach es X.env := by rfl) (hpl : (backTo pos (starEach es X.env)).any (·.1) = false := by rfl) :
    PE X (.Call (.Name x p) (e :: es) [] pos) (tCall sp [] E t) := by
  obtain ⟨f, fd, h1, h2, h3, h4, h5⟩ := O
  exact pe_call h4 hr hg h1 h2 h3 .nil hx ha hdb he hpl
theorem pc0 (O : Ok X.prog X.w X.K X.mg X.base k x [] sp) (hr : Room k X.A) (hg : Gl X x) (hx : Passes (L2.CX X.prog X.w) X E)
    (hdb : (x == ("__debug__" : Str)) = false := by decide) : PE X (.Call (.Name x p) [] [] pos) (tCall sp [] E tNil) := by
  obtain ⟨f, fd, h1, h2, h3, h4, h5⟩ := O
  exact pe_call0 h4 hr hg h1 h2 h3 .nil hx hdb
end
abbrev FnP (K : PySem.W.Frag) (x : Str) (st : Stmt) (f : Addr) (fd : FuncData) : Prop := FunD K x x (defArgs st) (defBody st) (defScope st) [] [] f fd
/-- the def st stands at the module's name x -/
def At (K : PySem.W.Frag) (mg : Str → Option Value) (x : Str) (st : Stmt) : Prop := ∃ (f : Addr) (fd : FuncData), FnP K x st f fd ∧ mg x = some (.ref f)
section
variable {P : Program} {w : World} {K : PySem.W.Frag} {mg : Str → Option Value} {base : Heap}
/-- the body's own context -/
abbrev cb (P : Program) (w : World) (K : PySem.W.Frag) (mg : Str → Option Value) (base : Heap) (N : List Str) (x : Str) (st : Stmt) (f : Addr) (cdv : Value) (A : Around) (outer : List Env) (s : Shared) (H : Hp) (E : XK) : Cx :=
  cxOf (L2.CX P w) P w K mg base N x (defScope st) f cdv A outer s H E
theorem mk {x : Str} {st : Stmt} {N ps : List Str} {k : Nat} {sp : Sp} (F : At K mg x st) (S : FnScope N ps (defScope st))
    (bd : ∀ (kV doc pm : Value) (an : Option Addr) (cdv ct : Value) (us : List Value), us.length = ps.length → bindArgs (PySem.W.fnOf x x (defArgs st) (defBody st) (defScope st) .none kV doc pm an cdv ct) ⟨us, []⟩ = pure (ps.zip us))
    (len : ∀ vs H Q E, sp vs H Q E → vs.length = ps.length)
    (hbody : ∀ (f : Addr) (cdv : Value) (A : Around) (outer : List Env) (s : Shared) (H : Hp) (vs : List V) (Q : VK) (E : XK), Room k (cb P w K mg base N x st f cdv A outer s H E).A → sp vs H Q E →
      ∃ t, PSs (cb P w K mg base N x st f cdv A outer s H E) (defBody st) t ∧ t { nx := fun _ H' => Q .non H', rt := Q } (start N vs) H) :
    Ok P w K mg base (k + 1) x ps sp := by
  obtain ⟨f, fd, F, hm⟩ := F
  refine ⟨f, fd, hm, F.kp, F.bindsN bd, F.ok S len fun cdv A outer s H vs Q E hr h => hbody f cdv A outer s H vs Q E hr h, ?_⟩
  obtain ⟨oc, od, dV, kV, doc, pm, an, cdv, ct, osl, rfl, lk, hcd, _, _⟩ := F.ex
  exact ⟨oc, od, osl, lk⟩
/-- the same where a token must be out -/
theorem mkT {x : Str} {st : Stmt} {N ps : List Str} {k : Nat} {sp : Sp} (F : At K mg x st) (Sc : FnScope N ps (defScope st)) (hnc : ∀ y ∈ (defScope st).names, y.2 ≠ .cell) (hps : 1 ≤ ps.length)
    (bd : ∀ (kV doc pm : Value) (an : Option Addr) (cdv ct : Value) (us : List Value), us.length = ps.length → bindArgs (PySem.W.fnOf x x (defArgs st) (defBody st) (defScope st) .none kV doc pm an cdv ct) ⟨us, []⟩ = pure (ps.zip us))
    (len : ∀ vs H Q E, sp vs H Q E → vs.length = ps.length)
    (hbody : ∀ (f : Addr) (cdv : Value) (A : Around) (outer : List Env) (s : Shared) (H : Hp) (vs : List V) (Q : VK) (E : XK), Room k (cb P w K mg base N x st f cdv A outer s H E).A → sp vs H Q E →
      ∃ t, PSsT (cb P w K mg base N x st f cdv A outer s H E) (defBody st) t ∧ t { nx := fun _ H' => Q .non H', rt := Q } (start N vs) H) :
    Ok P w K mg base (k + 1) x ps sp := by
  obtain ⟨f, fd, F, hm⟩ := F
  have bn := F.bindsN bd
  have kp := F.kp
  obtain ⟨oc, od, dV, kV, doc, pm, an, cdv, ct, osl, rfl, lk, hcd, _, _⟩ := F.ex
  exact ⟨f, _, hm, kp, bn, fn_ofT lk hcd Sc hnc hps len fun A outer s H vs Q E hr hsp => hbody f cdv A outer s H vs Q E hr hsp, oc, od, osl, lk⟩
theorem tkb {N : List Str} {x : Str} {st : Stmt} {f : Addr} {cdv : Value} {A : Around} {outer : List Env} {s : Shared} {H : Hp} {E : XK} : Takes (cb P w K mg base N x st f cdv A outer s H E) (fun c d _ H' => E c d H') := takes_of rfl rfl rfl rfl
theorem psb {N : List Str} {x : Str} {st : Stmt} {f : Addr} {cdv : Value} {A : Around} {outer : List Env} {s : Shared} {H : Hp} {E : XK} : Passes (L2.CX P w) (cb P w K mg base N x st f cdv A outer s H E) E := passes_call tkb fun _ _ _ _ h => h
end
theorem cb_K {P : Program} {w : World} {K : PySem.W.Frag} {mg : Str → Option Value} {base : Heap} {N : List Str} {x : Str} {st : Stmt} {f : Addr} {cdv : Value} {A : Around} {outer : List Env} {s : Shared} {H : Hp} {E : XK} : (cb P w K mg base N x st f cdv A outer s H E).K = K := rfl
theorem tyV_str {K : PySem.W.Frag} {z : Str} {H : Hp} : tyV K "str" (.str z) H = True := by
  unfold tyV
  simp
theorem tyV_lst {K : PySem.W.Frag} {i : Addr} {xs : List V} {H : Hp} (h : H i = some (.lst xs)) : tyV K "list" (.ref i) H := Or.inl ⟨rfl, _, .inl (.inl h)⟩
theorem scal_ss {a b : Str} : scal (.str a) (.str b) = true := rfl
theorem scal_ii {a b : Int} : scal (.int a) (.int b) = true := rfl
theorem scal_bb {a b : Bool} : scal (.bl a) (.bl b) = true := rfl
/-- a text by its signs -/
abbrev S (l : List Nat) : V := .str ⟨l.toArray⟩
end Cm
namespace Tx
open PySem
theorem arr1 {a b : Nat} : ((#[a] : Array Nat) = #[b]) ↔ (a = b) := by simp
theorem str_len (l : List Nat) : PySem.Str.length ⟨l.toArray⟩ = l.length := by simp [PySem.Str.length]
theorem at_nat {α : Type} (t : List α) (a : Nat) : L2.atI t (a : Int) = t[a]? := by
  unfold L2.atI L2.ixN
  rw [if_pos (Int.natCast_nonneg a)]
  by_cases h : a < t.length
  · rw [if_pos (by omega)]
    simp
  · rw [if_neg (by omega)]
    simp [List.getElem?_eq_none (Nat.le_of_not_lt h)]
theorem cut_nat (t : List Nat) (a b : Nat) : L2.cutS ⟨t.toArray⟩ (some (a : Int)) (some (b : Int)) = ⟨((t.drop a).take (b - a)).toArray⟩ := by
  unfold L2.cutS
  rw [str_len, HT.sIx_nat, HT.sIx_nat]
  show (⟨((t.drop (min a t.length)).take (min b t.length - min a t.length)).toArray⟩ : Str) = _
  congr 2
  by_cases h : a ≤ t.length
  · rw [Nat.min_eq_left h]
    by_cases h2 : b ≤ t.length
    · rw [Nat.min_eq_left h2]
    · rw [Nat.min_eq_right (by omega), List.take_of_length_le (by rw [List.length_drop]; omega), List.take_of_length_le (by rw [List.length_drop]; omega)]
  · have e : min a t.length = t.length := Nat.min_eq_right (by omega)
    rw [e, List.drop_of_length_le (Nat.le_refl _), List.drop_of_length_le (by omega)]
    simp
/-- the first place from a on at which c stands -/
def findFrom (t : List Nat) (c a : Nat) : Option Nat := ((t.drop a).findIdx? (· == c)).map (· + a)
theorem findFrom_none {t : List Nat} {c a : Nat} (h : ∀ v, a ≤ v → v < t.length → t.getD v 0 ≠ c) : findFrom t c a = none := by
  unfold findFrom
  rw [Option.map_eq_none_iff, List.findIdx?_eq_none_iff]
  intro x hx
  obtain ⟨i, hi, e⟩ := List.mem_iff_getElem.mp hx
  rw [List.getElem_drop] at e
  rw [List.length_drop] at hi
  have := h (a + i) (by omega) (by omega)
  rw [List.getD_eq_getElem?_getD, List.getElem?_eq_getElem (by omega), Option.getD_some, e] at this
  simpa using this
theorem findFrom_some {t : List Nat} {c a k : Nat} (h1 : a ≤ k) (h2 : k < t.length) (h3 : t.getD k 0 = c) (h : ∀ v, a ≤ v → v < k → t.getD v 0 ≠ c) : findFrom t c a = some k := by
  unfold findFrom
  rw [Option.map_eq_some_iff]
  refine ⟨k - a, ?_, by omega⟩
  rw [List.findIdx?_eq_some_iff_getElem]
  refine ⟨by rw [List.length_drop]; omega, ?_, fun j hj => ?_⟩
  · rw [List.getElem_drop]
    have e : a + (k - a) = k := by omega
    rw [List.getD_eq_getElem?_getD, List.getElem?_eq_getElem h2, Option.getD_some] at h3
    simp only [e, h3, beq_self_eq_true]
  · rw [List.getElem_drop]
    have := h (a + j) (by omega) (by omega)
    rw [List.getD_eq_getElem?_getD, List.getElem?_eq_getElem (by omega), Option.getD_some] at this
    simpa using this
theorem find_one (t : List Nat) (c a : Nat) : Txt.find3 ⟨t.toArray⟩ ⟨#[c]⟩ (a : Int) = (match findFrom t c a with | some k => (k : Int) | none => -1) := by
  have ef : fromIndex t.length (a : Int) = a := by
    unfold fromIndex
    rw [if_neg (by omega)]
    omega
  have eg : ∀ v, (⟨t.toArray⟩ : Str).cps.getD v 0 = t.getD v 0 := fun v => by
    simp [Array.getD, List.getD_eq_getElem?_getD]
    split <;> simp_all
  rcases StrLaws.find3_spec ⟨t.toArray⟩ c (a : Int) with ⟨e, h⟩ | ⟨k, e, h⟩
  · rw [e, findFrom_none]
    intro v h1 h2
    rw [← eg]
    exact h v (by rw [str_len, ef]; exact h1) (by rw [str_len]; exact h2)
  · rw [str_len, ef] at h
    obtain ⟨h1, h2, h3, h4⟩ := h
    rw [e, findFrom_some h1 h2 (by rw [← eg]; exact h3) (fun v a1 a2 => by rw [← eg]; exact h4 v a1 a2)]
theorem sw_nat (t w : List Nat) (a : Nat) (h : a ≤ t.length) : Txt.startswith3 ⟨t.toArray⟩ ⟨w.toArray⟩ (a : Int) = w.isPrefixOf (t.drop a) := by
  have ef : fromIndex t.length (a : Int) = a := by
    unfold fromIndex
    rw [if_neg (by omega)]
    omega
  unfold Txt.startswith3
  rw [str_len, str_len, ef, StrLaws.subAt_eq, str_len]
  show (decide (a + w.length ≤ t.length) && ((t.drop a).take w.length == w)) = _
  rw [Bool.eq_iff_iff, Bool.and_eq_true, decide_eq_true_eq, beq_iff_eq, List.isPrefixOf_iff_prefix, List.prefix_iff_eq_take]
  constructor
  · rintro ⟨_, e⟩
    exact e.symm
  · intro e
    refine ⟨?_, e.symm⟩
    have := congrArg List.length e
    rw [List.length_take, List.length_drop] at this
    omega
theorem cut_1m1 (t : List Nat) : L2.cutS ⟨t.toArray⟩ (some 1) (some (-1)) = ⟨((t.drop 1).take (t.length - 2)).toArray⟩ := by
  unfold L2.cutS
  rw [str_len]
  show (⟨((t.drop (min 1 t.length)).take (((-1 : Int) + (t.length : Int)).toNat - min 1 t.length)).toArray⟩ : Str) = _
  congr 2
  by_cases h : 1 ≤ t.length
  · rw [Nat.min_eq_left h, show ((-1 : Int) + (t.length : Int)).toNat - 1 = t.length - 2 by omega]
  · have e : t = [] := List.length_eq_zero_iff.mp (by omega)
    subst e
    rfl
theorem repl_list (x y z : List Nat) (hy : 1 ≤ y.length) : Txt.replace ⟨x.toArray⟩ ⟨y.toArray⟩ ⟨z.toArray⟩ = ⟨(StrLaws.replL y z x).toArray⟩ := by
  have h := StrLaws.replace_list (x := ⟨x.toArray⟩) (y := ⟨y.toArray⟩) (z := ⟨z.toArray⟩) (by rw [str_len]; exact hy)
  have h2 : (Txt.replace ⟨x.toArray⟩ ⟨y.toArray⟩ ⟨z.toArray⟩).cps.toList = StrLaws.replL y z x := h
  rw [← h2]
end Tx
namespace Cm
open PySem PySem.Spec PyProof.Rows L2
/-! ### an own error class of one field -/
/-- what the module tells of the error class x at C with the field f -/
structure Err1 (P : Program) (w : World) (K : PySem.W.Frag) (mg : Str → Option Value) (base : Heap) (x f : Str) (C : Addr) : Prop where
  g : mg x = some (.ref C)
  oex : OexC K C
  ini : ∃ fI fd, PySem.W.findIn K (.ref C) "__init__" = some (some (.ref fI)) ∧ PySem.W.typeIn K (.ref fI) = some (.type "function") ∧ Binds K fd ["self", f] [] ∧
    FnOk P w K mg base CX0 1 fI fd ["self", f] (fun vs H Q _ => ∃ (a : Addr) (v : V), vs = [.ref a, v] ∧ H a = some (exo a C none) ∧ ∀ dx, H dx = none → dx ≠ a → Q .non (upd (upd H dx (exd dx [(f, v)])) a (exo a C (some dx))))
  xf : XfC K C
  no : PySem.W.findIn K (.ref C) f = some none
  em : PySem.W.exmOne K (.ref C) (.ref C) = some true
/-- the reading of x(e) -/
def tErr (C : Addr) (f : Str) (ta : TE) : L2.St → Hp → XK → Prop := fun σ H Q => ta σ H fun v H1 => ∀ d, H1 d = none → Q (.ref C) (some d) (upd H1 d (.xd [(f, v)]))
theorem upd_del {H : Hp} {a d : Addr} {o u z : HO} (h : H a = none) (hd : d ≠ a) : upd (del (upd (upd H d o) a u) a) d z = upd H d z := by
  funext b
  by_cases hb : b = d
  · subst hb
    rw [upd_same, upd_same]
  · rw [upd_ne hb, upd_ne hb]
    by_cases ha : b = a
    · subst ha
      rw [del_same, h]
    · rw [del_ne ha, upd_ne ha, upd_ne hb]
/-- a reading made monotone -/
def up (te : TE) : TE := fun σ H Q => ∃ R : VK, te σ H R ∧ ∀ v H1, R v H1 → Q v H1
theorem pe_up {X : Cx} {e : Expr} {te : TE} (h : PE X e te) : PE X e (up te) := ⟨fun pins s σ H Q I q => by
  obtain ⟨R, q1, q2⟩ := q
  exact thn (h.run pins s σ H R I q1) fun u s1 ⟨v, H1, I1, r1, z⟩ => ⟨v, H1, I1, r1, q2 v H1 z⟩⟩
theorem pmk1 {X : Cx} {x f : Str} {C : Addr} {e : Expr} {te : TE} {p pos : Pos} {k : Nat} (R : Err1 X.prog X.w X.K X.mg X.base x f C) (hr : Room k X.A) (hg : Gl X x) (he : PE X e te) (hk : 2 ≤ k := by decide)
    (hdb : (x == ("__debug__" : Str)) = false := by decide) (h1 : starEach [e] X.env = (false, eval e X.env) :: starEach [] X.env := by rfl) (h2 : (backTo pos (starEach [] X.env)).any (·.1) = false := by rfl) :
    PMk X (.Call (.Name x p) [e] [] pos) (tErr C f te) := by
  obtain ⟨fI, fd, iC, tI, bd, F1⟩ := R.ini
  have M := pmk_oex (p := p) (pos := pos) R.oex iC tI F1 (hr.mono hk) bd .nil (pass0 (X := X)) hg R.g (pa_cons (pe_up he) pa_nil h1) hdb h1 h2
  intro pins s σ H Q I h
  refine M pins s σ H Q I ⟨_, h, fun v H1 q => ?_⟩
  refine ⟨by show 1 ≤ 1000; decide, fun a ha => ⟨a, v, rfl, upd_same, fun dx hx hne => ⟨rfl, dx, [(f, v)], upd_same, ?_, ?_, ?_⟩⟩⟩
  · rw [upd_ne hne, upd_same]
  · rw [upd_ne hne] at hx
    exact hx
  · rw [upd_ne hne] at hx
    have e : upd (del (upd (upd (upd H1 a (exo a C none)) dx (exd dx [(f, v)])) a (exo a C (some dx))) a) dx (.xd [(f, v)]) = upd H1 dx (.xd [(f, v)]) := by
      funext b
      by_cases hb : b = dx
      · subst hb
        rw [upd_same, upd_same]
      · rw [upd_ne hb, upd_ne hb]
        by_cases hz : b = a
        · subst hz
          rw [del_same, ha]
        · rw [del_ne hz, upd_ne hz, upd_ne hb, upd_ne hz]
    rw [e]
    exact q dx hx
/-! ### names of the module -/
def GInt (mg : Str → Option Value) (x : Str) (i : Int) : Prop := ∃ t, mg x = some (.int i t)
def GStr (mg : Str → Option Value) (x : Str) (l : List Nat) : Prop := ∃ t, mg x = some (.str ⟨l.toArray⟩ t)
def GTup (K : PySem.W.Frag) (mg : Str → Option Value) (x : Str) (xs : List V) : Prop := ∃ a, mg x = some (.ref a) ∧ ∀ H : Hp, SqT K H a xs
def tGT (K : PySem.W.Frag) (xs : List V) : TE := fun _ H Q => ∀ a, (∀ H' : Hp, SqT K H' a xs) → Q (.ref a) H
section
variable {X : Cx} {x : Str} {p : Pos}
theorem pn_int {i : Int} (hg : Gl X x) (h : GInt X.mg x i) (hd : (x == ("__debug__" : Str)) = false := by decide) : PE X (.Name x p) (tC (.int i)) := by
  obtain ⟨t, h⟩ := h
  exact pe_glob hg h ⟨t, rfl⟩ hd
theorem pn_str {l : List Nat} (hg : Gl X x) (h : GStr X.mg x l) (hd : (x == ("__debug__" : Str)) = false := by decide) : PE X (.Name x p) (tC (S l)) := by
  obtain ⟨t, h⟩ := h
  exact pe_glob hg h ⟨t, rfl⟩ hd
theorem pn_tup {xs : List V} (hg : Gl X x) (h : GTup X.K X.mg x xs) (hd : (x == ("__debug__" : Str)) = false := by decide) : PE X (.Name x p) (tGT X.K xs) := by
  obtain ⟨a, h, q⟩ := h
  refine ⟨fun pins s σ H Q I z => ?_⟩
  exact (pe_glob (v := .ref a) hg h rfl hd).run pins s σ H Q I (z a q)
end
end Cm
namespace Cm
open PySem PySem.Spec PyProof.Rows L2
theorem pe_strL (l : List Nat) {X : Cx} {x : Str} {j : Nat} {pos : Pos} (h : x = ⟨l.toArray⟩ := by decide +kernel) : PE X (.Constant (.str x) j pos) (tC (S l)) := by
  subst h
  exact pe_str
theorem nat_succ (a : Nat) : (a : Int) + 1 = ((a + 1 : Nat) : Int) := rfl
theorem nat_two (a : Nat) : (a : Int) + 2 = ((a + 2 : Nat) : Int) := rfl
theorem nat_add (a b : Nat) : (a : Int) + (b : Int) = ((a + b : Nat) : Int) := rfl
theorem toArr_inj {a b : List Nat} : a.toArray = b.toArray ↔ a = b := by simp
theorem same_new {H : Hp} {p : Addr} {o : HO} (h : H p = none) : Same H (upd H p o) := fun b u e => by
  rw [upd_ne (ne_of_none e h)]
  exact e
theorem two_one (x : Nat) : x + 2 - (x + 1) = 1 := by omega
theorem szl {n : Nat} (h : n ≤ 100000) : n ≤ sizeLine := Nat.le_trans h (by decide)
end Cm
/-! the words, as plain functions of what stands from a place on -/
namespace Lx
open PySem L2
abbrev Sv (l : List Nat) : V := .str ⟨l.toArray⟩
def kLETTERS : List Nat := [97, 98, 99, 100, 101, 102, 103, 104, 105, 106, 107, 108, 109, 110, 111, 112, 113, 114, 115, 116, 117, 118, 119, 120, 121, 122, 65, 66, 67, 68, 69, 70, 71, 72, 73, 74, 75, 76, 77, 78, 79, 80, 81, 82, 83, 84, 85, 86, 87, 88, 89, 90]
def kDIGITS : List Nat := [48, 49, 50, 51, 52, 53, 54, 55, 56, 57]
def kNAME_SIGNS : List Nat := [97, 98, 99, 100, 101, 102, 103, 104, 105, 106, 107, 108, 109, 110, 111, 112, 113, 114, 115, 116, 117, 118, 119, 120, 121, 122, 65, 66, 67, 68, 69, 70, 71, 72, 73, 74, 75, 76, 77, 78, 79, 80, 81, 82, 83, 84, 85, 86, 87, 88, 89, 90, 48, 49, 50, 51, 52, 53, 54, 55, 56, 57]
def kOPERATORS_FIRST : List (List Nat) := [[47, 47], [92, 92], [60, 61], [62, 61], [61, 61], [126, 61], [126, 126], [43], [45], [42], [60], [62], [61], [44]]
def kSIGNS_FIRST : List (List Nat) := [[58, 61], [35, 40], [40], [41], [91], [93], [58], [124], [94], [46], [59]]
def kENDS : List (List Nat) := [[110, 97, 109, 101], [105, 110, 116], [115, 116, 114], [115, 121, 109]]
def kCLOSING : List (List Nat) := [[41], [93]]
/-- kinds -/
def kName : List Nat := [110, 97, 109, 101]
def kKeyword : List Nat := [107, 101, 121, 119, 111, 114, 100]
def kInt : List Nat := [105, 110, 116]
def kStr : List Nat := [115, 116, 114]
def kSym : List Nat := [115, 121, 109]
def kOp : List Nat := [111, 112]
def kSign : List Nat := [115, 105, 103, 110]

def runLen (sg r : List Nat) : Nat := (r.takeWhile fun c => decide (c ∈ sg)).length
def nameLen (r : List Nat) : Nat := if r.headD 0 ∈ kLETTERS then (if runLen kNAME_SIGNS r ≤ 40 then runLen kNAME_SIGNS r else 0) else 0
def kwLen (r : List Nat) : Nat := if 0 < nameLen r ∧ r[nameLen r]? = some 58 ∧ r[nameLen r + 1]? ≠ some 61 then nameLen r + 1 else 0
def kwsLenF : Nat → List Nat → Nat
  | 0, _ => 0
  | f + 1, r => if 0 < kwLen r then kwLen r + kwsLenF f (r.drop (kwLen r)) else 0
def kwsLen (r : List Nat) : Nat := kwsLenF r.length r
/-- behind the first sign of a string: how many signs to its end, if it ends -/
def tick : List Nat → Option Nat
  | [] => none
  | [c] => if c = 39 then some 1 else none
  | c :: d :: r => if c = 39 then (if d = 39 then (tick r).map (· + 2) else some 1) else (tick (d :: r)).map (· + 1)
/-- of a string that begins there -/
def strLen (r : List Nat) : Option Nat := (tick (r.drop 1)).map (· + 1)
def unq (l : List Nat) : List Nat := StrLaws.replL [39, 39] [39] ((l.drop 1).take (l.length - 2))
def firstOf (cs : List (List Nat)) (r : List Nat) : List Nat := (cs.find? fun w => w.isPrefixOf r).getD []
/-- of a symbol that begins there: 0 if there is none, none if it does not end -/
def symLen (r : List Nat) : Option Nat :=
  if r[1]? = some 39 then (strLen (r.drop 1)).map (· + 1)
  else
    let n := if kwsLen (r.drop 1) < nameLen (r.drop 1) then nameLen (r.drop 1) else kwsLen (r.drop 1)
    let m := if n = 0 then (firstOf kOPERATORS_FIRST (r.drop 1)).length else n
    some (if 0 < m then m + 1 else 0)
abbrev Tok := List Nat × V × Nat
def signWord (r : List Nat) : Option Tok :=
  if firstOf kOPERATORS_FIRST r = [] then (if firstOf kSIGNS_FIRST r = [] then none else some (kSign, Sv (firstOf kSIGNS_FIRST r), (firstOf kSIGNS_FIRST r).length))
  else some (kOp, Sv (firstOf kOPERATORS_FIRST r), (firstOf kOPERATORS_FIRST r).length)
def symWord (r : List Nat) : Option Tok := match symLen r with
  | none => none
  | some n => if 0 < n then some (kSym, Sv (if r[1]? = some 39 then unq ((r.drop 1).take (n - 1)) else (r.drop 1).take (n - 1)), n) else signWord r
def nameWord (r : List Nat) : Option Tok :=
  if 0 < kwLen r then some (kKeyword, Sv (r.take (kwLen r)), kwLen r)
  else if nameLen r = 0 then none else some (kName, Sv (r.take (nameLen r)), nameLen r)
def strWord (r : List Nat) : Option Tok := (strLen r).map fun n => (kStr, Sv (unq (r.take n)), n)
def intLen (r : List Nat) (neg : Bool) : Nat :=
  let s := if neg = true ∧ r.headD 0 = 45 then 1 else 0
  let n := runLen kDIGITS (r.drop s)
  if 1 ≤ n ∧ n ≤ 60 then s + n else 0
def intOf (l : List Nat) : Int := if l.headD 0 = 45 then -((NumText.digitsVal (l.drop 1) : Nat) : Int) else ((NumText.digitsVal l : Nat) : Int)
def wordAt (r : List Nat) (neg : Bool) : Option Tok :=
  let c := r.headD 0
  if c ∈ kLETTERS then nameWord r else if c = 39 then strWord r else if c = 35 then symWord r
  else if 0 < intLen r neg then some (kInt, .int (intOf (r.take (intLen r neg))), intLen r neg) else signWord r
def commentLen (r : List Nat) : Option Nat := ((r.drop 1).findIdx? (· == 34)).map (· + 2)
abbrev Toks := List Tok
def mayNeg (ws : Toks) (wi : List Bool) : Bool := match ws.getLast? with
  | none => true
  | some (k, v, _) => if wi.getLast? = some true then true else !(decide (k ∈ kENDS)) && !(decide (k = kSign) && inV v (kCLOSING.map Sv))
def noteSign (wi : List Bool) (k : List Nat) (v : V) : List Bool :=
  let w1 := if k = kSign ∧ (v = Sv [35, 40] ∨ v = Sv [40]) then wi ++ [decide (v = Sv [35, 40]) || decide (wi.getLast? = some true)] else wi
  if k = kSign ∧ v = Sv [41] ∧ w1 ≠ [] then w1.dropLast else w1
/-- the words from a place on: the place at which none begins, or the words -/
def lexF : Nat → List Nat → Nat → Toks → List Bool → Except Nat Toks
  | 0, _, _, ws, _ => .ok ws
  | f + 1, r, p, ws, wi => match r with
    | [] => .ok ws
    | c :: _ =>
      if c = 32 ∨ c = 10 then lexF f (r.drop 1) (p + 1) ws wi
      else if c = 34 then (match commentLen r with
        | none => .error p
        | some n => lexF f (r.drop n) (p + n) ws wi)
      else match wordAt r (mayNeg ws wi) with
        | none => .error p
        | some (k, v, n) => lexF f (r.drop n) (p + n) (ws ++ [(k, v, p)]) (noteSign wi k v)
def lex (t : List Nat) : Except Nat Toks := lexF t.length t 0 [] []

/-! ### lengths -/
theorem runLen_le (sg r : List Nat) : runLen sg r ≤ r.length := (List.takeWhile_sublist _).length_le
theorem runLen_cons (sg : List Nat) (c : Nat) (r : List Nat) : runLen sg (c :: r) = if c ∈ sg then runLen sg r + 1 else 0 := by
  unfold runLen
  rw [List.takeWhile_cons]
  by_cases h : c ∈ sg
  · simp [h]
  · simp [h]
theorem runLen_nil (sg : List Nat) : runLen sg [] = 0 := rfl
theorem nameLen_le (r : List Nat) : nameLen r ≤ r.length := by
  unfold nameLen
  have := runLen_le kNAME_SIGNS r
  split
  · split <;> omega
  · omega
theorem kwLen_le (r : List Nat) : kwLen r ≤ r.length := by
  unfold kwLen
  split
  · rename_i h
    have := (List.getElem?_eq_some_iff.mp h.2.1).1
    omega
  · omega
theorem kwsLenF_le : ∀ (f : Nat) (r : List Nat), kwsLenF f r ≤ r.length
  | 0, r => Nat.zero_le _
  | f + 1, r => by
    unfold kwsLenF
    split
    · have h1 := kwsLenF_le f (r.drop (kwLen r))
      have h2 := kwLen_le r
      rw [List.length_drop] at h1
      omega
    · omega
theorem kwsLenF_more : ∀ (f : Nat) (r : List Nat), r.length ≤ f → kwsLenF f r = kwsLenF r.length r := by
  intro f
  induction f using Nat.strongRecOn with
  | _ f ih =>
    intro r hf
    cases f with
    | zero =>
      have : r.length = 0 := by omega
      rw [this]
    | succ f =>
      by_cases hk : 0 < kwLen r
      · have h2 := kwLen_le r
        obtain ⟨n, hn⟩ : ∃ n, r.length = n + 1 := ⟨r.length - 1, by omega⟩
        rw [hn]
        simp only [kwsLenF, if_pos hk]
        have hl : (r.drop (kwLen r)).length ≤ n := by rw [List.length_drop]; omega
        rw [ih f (Nat.lt_succ_self f) (r.drop (kwLen r)) (by omega)]
        by_cases hnf : n < f + 1
        · rw [ih n hnf (r.drop (kwLen r)) hl]
        · omega
      · have e : ∀ g, kwsLenF (g + 1) r = 0 := fun g => by simp only [kwsLenF, if_neg hk]
        rw [e]
        cases hr : r.length with
        | zero => rfl
        | succ n => rw [e]
theorem kwsLen_step {r : List Nat} (h : 0 < kwLen r) : kwsLen r = kwLen r + kwsLen (r.drop (kwLen r)) := by
  have h2 := kwLen_le r
  unfold kwsLen
  obtain ⟨n, hn⟩ : ∃ n, r.length = n + 1 := ⟨r.length - 1, by omega⟩
  rw [hn]
  simp only [kwsLenF, if_pos h]
  rw [kwsLenF_more n (r.drop (kwLen r)) (by rw [List.length_drop]; omega)]
theorem kwsLen_stop {r : List Nat} (h : ¬ 0 < kwLen r) : kwsLen r = 0 := by
  unfold kwsLen
  cases r.length with
  | zero => rfl
  | succ n => simp only [kwsLenF, if_neg h]
theorem tick_le : ∀ {r : List Nat} {n : Nat}, tick r = some n → 1 ≤ n ∧ n ≤ r.length
  | [], n, h => by simp [tick] at h
  | [c], n, h => by
    unfold tick at h
    split at h
    · cases h; simp
    · cases h
  | c :: d :: r, n, h => by
    unfold tick at h
    split at h
    · split at h
      · obtain ⟨m, h1, rfl⟩ := Option.map_eq_some_iff.mp h
        have := tick_le h1
        simp only [List.length_cons]
        omega
      · cases h; simp
    · obtain ⟨m, h1, rfl⟩ := Option.map_eq_some_iff.mp h
      have := tick_le h1
      simp only [List.length_cons] at this ⊢
      omega
theorem strLen_le {r : List Nat} {n : Nat} (h : strLen r = some n) : 2 ≤ n ∧ n ≤ r.length := by
  obtain ⟨m, h1, rfl⟩ := Option.map_eq_some_iff.mp h
  have := tick_le h1
  rw [List.length_drop] at this
  omega
theorem firstOf_pre (cs : List (List Nat)) (r : List Nat) : firstOf cs r <+: r := by
  unfold firstOf
  cases h : cs.find? fun w => w.isPrefixOf r with
  | none => exact List.nil_prefix
  | some w =>
    have := List.find?_some h
    simpa using this
theorem firstOf_le (cs : List (List Nat)) (r : List Nat) : (firstOf cs r).length ≤ r.length := (firstOf_pre cs r).length_le
theorem symLen_le {r : List Nat} {n : Nat} (h : symLen r = some n) : n ≤ r.length ∧ (0 < n → 2 ≤ n) := by
  unfold symLen at h
  split at h
  · obtain ⟨m, h1, rfl⟩ := Option.map_eq_some_iff.mp h
    have := strLen_le h1
    rw [List.length_drop] at this
    omega
  · rename_i hne
    have h1 := firstOf_le kOPERATORS_FIRST (r.drop 1)
    have h2 := nameLen_le (r.drop 1)
    have h3 := kwsLenF_le (r.drop 1).length (r.drop 1)
    have h3' : kwsLen (r.drop 1) ≤ (r.drop 1).length := h3
    rw [List.length_drop] at h1 h2 h3'
    have h := Option.some.inj h
    clear h3
    generalize kwsLen (r.drop 1) = x at h h3'
    generalize nameLen (r.drop 1) = y at h h2
    generalize (firstOf kOPERATORS_FIRST (r.drop 1)).length = z at h h1
    rw [← h]
    constructor
    · (repeat' split) <;> omega
    · (repeat' split) <;> omega
theorem commentLen_le {r : List Nat} {n : Nat} (h : commentLen r = some n) : 2 ≤ n ∧ n ≤ r.length := by
  obtain ⟨m, h1, rfl⟩ := Option.map_eq_some_iff.mp h
  have := (List.findIdx?_eq_some_iff_getElem.mp h1).1
  rw [List.length_drop] at this
  omega
theorem intLen_le (r : List Nat) (neg : Bool) : intLen r neg ≤ r.length := by
  unfold intLen
  dsimp only
  generalize (if neg = true ∧ r.headD 0 = 45 then 1 else 0) = s
  have := runLen_le kDIGITS (r.drop s)
  rw [List.length_drop] at this
  split
  · omega
  · omega
theorem signWord_le {r : List Nat} {k : List Nat} {v : V} {n : Nat} (h : signWord r = some (k, v, n)) : 0 < n ∧ n ≤ r.length := by
  unfold signWord at h
  split at h
  · split at h
    · cases h
    · rename_i hx
      cases h
      exact ⟨List.length_pos_iff.mpr hx, firstOf_le _ _⟩
  · rename_i hx
    cases h
    exact ⟨List.length_pos_iff.mpr hx, firstOf_le _ _⟩
theorem wordAt_le {r : List Nat} {neg : Bool} {k : List Nat} {v : V} {n : Nat} (h : wordAt r neg = some (k, v, n)) : 0 < n ∧ n ≤ r.length := by
  unfold wordAt at h
  dsimp only at h
  split at h
  · unfold nameWord at h
    split at h
    · cases h
      exact ⟨by assumption, kwLen_le _⟩
    · split at h
      · cases h
      · cases h
        exact ⟨by omega, nameLen_le _⟩
  · split at h
    · unfold strWord at h
      obtain ⟨m, h1, h2⟩ := Option.map_eq_some_iff.mp h
      cases h2
      have := strLen_le h1
      omega
    · split at h
      · unfold symWord at h
        split at h
        · cases h
        · rename_i m hm
          split at h
          · cases h
            exact ⟨by assumption, (symLen_le hm).1⟩
          · exact signWord_le h
      · split at h
        · cases h
          exact ⟨by assumption, intLen_le _ _⟩
        · exact signWord_le h
theorem lexF_more : ∀ (f : Nat) (r : List Nat) (p : Nat) (ws : Toks) (wi : List Bool), r.length ≤ f → lexF f r p ws wi = lexF r.length r p ws wi := by
  intro f
  induction f using Nat.strongRecOn with
  | _ f ih =>
    intro r p ws wi hf
    cases r with
    | nil => cases f <;> rfl
    | cons c q =>
      cases f with
      | zero => simp at hf
      | succ f =>
        have key : ∀ (n p' : Nat) (ws' : Toks) (wi' : List Bool), 0 < n → n ≤ (c :: q).length → lexF f ((c :: q).drop n) p' ws' wi' = lexF q.length ((c :: q).drop n) p' ws' wi' := fun n p' ws' wi' h1 h2 => by
          have hl : ((c :: q).drop n).length ≤ q.length := by rw [List.length_drop]; simp only [List.length_cons]; omega
          simp only [List.length_cons] at hf
          rw [ih f (Nat.lt_succ_self f) _ _ _ _ (by omega)]
          by_cases hq : q.length < f + 1
          · rw [ih q.length hq _ _ _ _ hl]
          · omega
        show lexF (f + 1) (c :: q) p ws wi = lexF (q.length + 1) (c :: q) p ws wi
        simp only [lexF]
        split
        · exact key 1 _ _ _ (by decide) (by simp)
        · split
          · split
            · rfl
            · rename_i n hn
              have := commentLen_le hn
              exact key n _ _ _ (by omega) this.2
          · split
            · rfl
            · rename_i k v n hn
              have := wordAt_le hn
              exact key n _ _ _ this.1 this.2
/-! ### the string's end by its finds -/
open Tx
def tickAt (t : List Nat) (b : Nat) : Option Nat := (tick (t.drop b)).map (· + b)
theorem find_cons {t : List Nat} {b c x : Nat} (h : t[b]? = some x) : findFrom t c b = if x = c then some b else findFrom t c (b + 1) := by
  obtain ⟨hb, e⟩ := List.getElem?_eq_some_iff.mp h
  unfold findFrom
  rw [List.drop_eq_getElem_cons hb, e, List.findIdx?_cons]
  by_cases hx : x = c
  · simp [hx]
  · simp only [if_neg hx, beq_eq_false_iff_ne.mpr hx, Bool.false_eq_true, if_false, Option.map_map]
    congr 1
    funext y
    simp only [Function.comp]
    omega
theorem find_nil {t : List Nat} {b c : Nat} (h : t.length ≤ b) : findFrom t c b = none := by
  unfold findFrom
  rw [List.drop_eq_nil_of_le h]
  rfl
theorem find_some {t : List Nat} {b c e : Nat} (h : findFrom t c b = some e) : b ≤ e ∧ e < t.length := by
  unfold findFrom at h
  obtain ⟨m, h1, rfl⟩ := Option.map_eq_some_iff.mp h
  have := (List.findIdx?_eq_some_iff_getElem.mp h1).1
  rw [List.length_drop] at this
  omega
theorem tickAt_find (t : List Nat) : ∀ (n b : Nat), t.length - b ≤ n → tickAt t b = (match findFrom t 39 b with | none => none | some e => if t[e + 1]? = some 39 then tickAt t (e + 2) else some (e + 1))
  | 0, b, h => by
    rw [find_nil (by omega)]
    unfold tickAt
    rw [List.drop_eq_nil_of_le (by omega)]
    rfl
  | n + 1, b, h => by
    by_cases hb : b < t.length
    · have e := List.getElem?_eq_getElem hb
      rw [find_cons e]
      by_cases hx : t[b] = 39
      · rw [if_pos hx]
        by_cases hb1 : b + 1 < t.length
        · have e1 := List.getElem?_eq_getElem hb1
          show tickAt t b = if t[b + 1]? = some 39 then tickAt t (b + 2) else some (b + 1)
          unfold tickAt
          rw [List.drop_eq_getElem_cons hb, List.drop_eq_getElem_cons hb1, hx, e1]
          by_cases hy : t[b + 1] = 39
          · rw [if_pos (by rw [hy])]
            show Option.map _ (if 39 = 39 then (if t[b + 1] = 39 then (tick (t.drop (b + 1 + 1))).map (· + 2) else some 1) else _) = _
            rw [if_pos rfl, if_pos hy, Option.map_map]
            congr 1
            funext y
            simp only [Function.comp]
            omega
          · rw [if_neg (by intro z; exact hy (Option.some.inj z))]
            show Option.map _ (if 39 = 39 then (if t[b + 1] = 39 then _ else some 1) else _) = _
            rw [if_pos rfl, if_neg hy]
            simp only [Option.map_some]
            congr 1
            omega
        · show tickAt t b = if t[b + 1]? = some 39 then tickAt t (b + 2) else some (b + 1)
          rw [List.getElem?_eq_none (by omega)]
          unfold tickAt
          rw [List.drop_eq_getElem_cons hb, List.drop_eq_nil_of_le (Nat.le_of_not_lt hb1), hx]
          simp [tick]
          omega
      · rw [if_neg hx, ← tickAt_find t n (b + 1) (by omega)]
        unfold tickAt
        rw [List.drop_eq_getElem_cons hb]
        by_cases hb1 : b + 1 < t.length
        · rw [List.drop_eq_getElem_cons hb1]
          show Option.map _ (if t[b] = 39 then _ else (tick (t[b + 1] :: t.drop (b + 1 + 1))).map (· + 1)) = _
          rw [if_neg hx, Option.map_map]
          congr 1
          funext y
          simp only [Function.comp]
          omega
        · rw [List.drop_eq_nil_of_le (Nat.le_of_not_lt hb1)]
          simp [tick, hx]
    · rw [find_nil (by omega)]
      unfold tickAt
      rw [List.drop_eq_nil_of_le (by omega)]
      rfl
theorem strLen_at {t : List Nat} {a : Nat} : (strLen (t.drop a)).map (· + a) = tickAt t (a + 1) := by
  unfold strLen tickAt
  rw [List.drop_drop, Option.map_map]
  congr 1
  funext y
  simp only [Function.comp]
  omega
theorem take1_eq (t : List Nat) (a c : Nat) : (t.drop a).take 1 = [c] ↔ t[a]? = some c := by
  by_cases h : a < t.length
  · rw [List.drop_eq_getElem_cons h, List.getElem?_eq_getElem h]
    show [t[a]] = [c] ↔ some t[a] = some c
    simp only [List.cons.injEq, and_true, Option.some.injEq]
  · rw [List.drop_eq_nil_of_le (by omega), List.getElem?_eq_none (by omega)]
    simp
theorem intLen_le60 (r : List Nat) (neg : Bool) : intLen r neg ≤ 61 := by
  unfold intLen
  dsimp only
  by_cases h : neg = true ∧ r.headD 0 = 45
  · rw [if_pos h]
    split <;> omega
  · rw [if_neg h]
    split <;> omega
theorem run_take (sg r : List Nat) : ∀ c ∈ r.take (runLen sg r), c ∈ sg := by
  induction r with
  | nil => intro c hc; simp at hc
  | cons d r ih =>
    intro c hc
    rw [runLen_cons] at hc
    by_cases h : d ∈ sg
    · rw [if_pos h, List.take_succ_cons] at hc
      rcases List.mem_cons.mp hc with rfl | hc
      · exact h
      · exact ih c hc
    · rw [if_neg h, List.take_zero] at hc
      simp at hc
theorem dig_all {l : List Nat} (h : ∀ c ∈ l, c ∈ kDIGITS) : NumText.AllDigits l := fun c hc => by
  have := h c hc
  simp only [kDIGITS, List.mem_cons, List.not_mem_nil, or_false] at this
  omega
theorem intText_ok {r : List Nat} {neg : Bool} (h : 0 < intLen r neg) : PySem.intText? ⟨(r.take (intLen r neg)).toArray⟩ = some (intOf (r.take (intLen r neg))) := by
  have h60 := intLen_le60 r neg
  have hle := intLen_le r neg
  have hlen : (r.take (intLen r neg)).length = intLen r neg := by rw [List.length_take]; omega
  unfold intLen at h h60 hle hlen ⊢
  dsimp only at h h60 hle hlen ⊢
  by_cases hn : neg = true ∧ r.headD 0 = 45
  · rw [if_pos hn] at h h60 hle hlen ⊢
    by_cases hc : 1 ≤ runLen kDIGITS (r.drop 1) ∧ runLen kDIGITS (r.drop 1) ≤ 60
    · rw [if_pos hc] at h h60 hle hlen ⊢
      cases r with
      | nil => simp at hle
      | cons c q =>
        have ec : c = 45 := hn.2
        subst ec
        have eq : (45 :: q).drop 1 = q := rfl
        rw [eq] at *
        have et : (45 :: q).take (1 + runLen kDIGITS q) = 45 :: q.take (runLen kDIGITS q) := by rw [Nat.add_comm, List.take_succ_cons]
        rw [et]
        have hq : q.take (runLen kDIGITS q) ≠ [] := by
          intro z
          have h1 := congrArg List.length z
          rw [List.length_take] at h1
          have h2 := runLen_le kDIGITS q
          have h3 : 1 ≤ runLen kDIGITS q := hc.1
          have h4 : min (runLen kDIGITS q) q.length = 0 := h1
          omega
        rw [PySem.intText_neg (cs := q.take (runLen kDIGITS q)) rfl (dig_all (run_take kDIGITS q)) hq (by
          rw [Tx.str_len, ← et]
          have h5 : runLen kDIGITS q ≤ 60 := hc.2
          rw [List.length_take]
          omega)]
        rfl
    · rw [if_neg hc] at h
      omega
  · rw [if_neg hn] at h h60 hle hlen ⊢
    rw [List.drop_zero] at *
    by_cases hc : 1 ≤ runLen kDIGITS r ∧ runLen kDIGITS r ≤ 60
    · rw [if_pos hc, Nat.zero_add] at h h60 hle hlen ⊢
      have hd := dig_all (run_take kDIGITS r)
      have hq : r.take (runLen kDIGITS r) ≠ [] := by
        intro z
        have := congrArg List.length z
        rw [hlen] at this
        simp at this
        omega
      rw [PySem.intText_digits (x := ⟨(r.take (runLen kDIGITS r)).toArray⟩) hd hq (by rw [Tx.str_len, hlen]; omega)]
      unfold intOf
      have h45 : ¬ (r.take (runLen kDIGITS r)).headD 0 = 45 := by
        cases e : r.take (runLen kDIGITS r) with
        | nil => exact absurd e hq
        | cons c q =>
          have := hd c (by rw [e]; exact List.mem_cons_self)
          show ¬ c = 45
          omega
      rw [if_neg h45]
    · rw [if_neg hc] at h
      omega
theorem lex_step {t : List Nat} {a : Nat} (h : a < t.length) (ws : Toks) (wi : List Bool) : lexF (t.length - a) (t.drop a) a ws wi =
    if t[a] = 32 ∨ t[a] = 10 then lexF (t.length - (a + 1)) (t.drop (a + 1)) (a + 1) ws wi
    else if t[a] = 34 then (match commentLen (t.drop a) with
      | none => .error a
      | some n => lexF (t.length - (a + n)) (t.drop (a + n)) (a + n) ws wi)
    else match wordAt (t.drop a) (mayNeg ws wi) with
      | none => .error a
      | some (k, v, n) => lexF (t.length - (a + n)) (t.drop (a + n)) (a + n) (ws ++ [(k, v, a)]) (noteSign wi k v) := by
  have key : ∀ n ws' wi', 0 < n → lexF (t.length - a - 1) ((t.drop a).drop n) (a + n) ws' wi' = lexF (t.length - (a + n)) (t.drop (a + n)) (a + n) ws' wi' := fun n ws' wi' hn => by
    rw [List.drop_drop, lexF_more _ _ _ _ _ (by rw [List.length_drop]; omega), List.length_drop]
  obtain ⟨f, hf⟩ : ∃ f, t.length - a = f + 1 := ⟨t.length - a - 1, by omega⟩
  have hf' : t.length - a - 1 = f := by omega
  rw [hf'] at key
  rw [hf]
  have e : t.drop a = t[a] :: t.drop (a + 1) := List.drop_eq_getElem_cons h
  have e2 : lexF (f + 1) (t.drop a) a ws wi = lexF (f + 1) (t[a] :: t.drop (a + 1)) a ws wi := by rw [← e]
  rw [e2]
  simp only [lexF]
  rw [← e]
  split
  · exact key 1 ws wi (by decide)
  · split
    · cases hc : commentLen (t.drop a) with
      | none => rfl
      | some n => exact key n ws wi (by have := commentLen_le hc; omega)
    · cases hc : wordAt (t.drop a) (mayNeg ws wi) with
      | none => rfl
      | some tk =>
        obtain ⟨k, v, n⟩ := tk
        exact key n _ _ (wordAt_le hc).1
theorem lex_end {t : List Nat} {a : Nat} (h : t.length ≤ a) (ws : Toks) (wi : List Bool) : lexF (t.length - a) (t.drop a) a ws wi = .ok ws := by
  rw [show t.length - a = 0 by omega]
  rfl
theorem signWord_val {r : List Nat} {k : List Nat} {v : V} {n : Nat} (h : signWord r = some (k, v, n)) : ∃ l, v = Sv l := by
  unfold signWord at h
  split at h
  · split at h
    · cases h
    · cases h
      exact ⟨_, rfl⟩
  · cases h
    exact ⟨_, rfl⟩
theorem wordAt_val {r : List Nat} {neg : Bool} {k : List Nat} {v : V} {n : Nat} (h : wordAt r neg = some (k, v, n)) : (∃ l, v = Sv l) ∨ ∃ i, v = .int i := by
  unfold wordAt at h
  dsimp only at h
  split at h
  · unfold nameWord at h
    split at h
    · cases h
      exact .inl ⟨_, rfl⟩
    · split at h
      · cases h
      · cases h
        exact .inl ⟨_, rfl⟩
  · split at h
    · unfold strWord at h
      obtain ⟨m, h1, h2⟩ := Option.map_eq_some_iff.mp h
      cases h2
      exact .inl ⟨_, rfl⟩
    · split at h
      · unfold symWord at h
        split at h
        · cases h
        · split at h
          · cases h
            exact .inl ⟨_, rfl⟩
          · exact .inl (signWord_val h)
      · split at h
        · cases h
          exact .inr ⟨_, rfl⟩
        · exact .inl (signWord_val h)
theorem noteSign_len (wi : List Bool) (k : List Nat) (v : V) : (noteSign wi k v).length ≤ wi.length + 1 := by
  unfold noteSign
  dsimp only
  by_cases h1 : k = kSign ∧ (v = Sv [35, 40] ∨ v = Sv [40])
  · rw [if_pos h1]
    split
    · rw [List.length_dropLast]
      simp
    · simp
  · rw [if_neg h1]
    split
    · rw [List.length_dropLast]
      omega
    · omega
end Lx
namespace Cm
open PySem PySem.Spec PyProof.Rows L2
/-! ### == of lists whose items are flat (or of which one is empty) -/
def eqLs : List V → List V → Bool
  | [], [] => true
  | x :: xs, y :: ys => eqV x y && eqLs xs ys
  | [], _ :: _ => false
  | _ :: _, [] => false
def flatP (xs ys : List V) : Bool := (xs.zip ys).all fun p => flatV p.1 && flatV p.2
theorem eqLs_len : ∀ {xs ys : List V}, xs.length ≠ ys.length → eqLs xs ys = false
  | [], [], h => absurd rfl h
  | [], _ :: _, _ => rfl
  | _ :: _, [], _ => rfl
  | x :: xs, y :: ys, h => by
    unfold eqLs
    rw [eqLs_len (fun z => h (by simp [z])), Bool.and_false]
theorem eqLs_range : ∀ {xs ys : List V}, xs.length = ys.length → eqLs xs ys = (List.range xs.length).all fun j => eqV (xs.getD j .non) (ys.getD j .non)
  | [], [], _ => rfl
  | [], _ :: _, h => by simp at h
  | _ :: _, [], h => by simp at h
  | x :: xs, y :: ys, h => by
    unfold eqLs
    rw [eqLs_range (xs := xs) (ys := ys) (by simpa using h), List.length_cons, List.range_succ_eq_map, List.all_cons, List.all_map]
    rfl
def rEqF (K : PySem.W.Frag) : R2 := fun x y H Q => ∃ a b xs ys, x = .ref a ∧ y = .ref b ∧ SqL K H a xs ∧ SqL K H b ys ∧ flatP xs ys = true ∧ Q (.bl (eqLs xs ys)) H
def rNeF (K : PySem.W.Frag) : R2 := fun x y H Q => ∃ a b xs ys, x = .ref a ∧ y = .ref b ∧ SqL K H a xs ∧ SqL K H b ys ∧ flatP xs ys = true ∧ Q (.bl (!eqLs xs ys)) H
theorem flat_at {A : Around} {s : Shared} {xs ys : List V} {us ws : List Value} (r1 : Vals xs us) (r2 : Vals ys ws) (hf : flatP xs ys = true) :
    ∀ j (h1 : j < us.toArray.size) (h2 : j < ws.toArray.size), SeqAt.EqAt A s us.toArray[j] ws.toArray[j] (eqV (xs.getD j .non) (ys.getD j .non)) := fun j h1 h2 => by
  have e1 : j < xs.length := by rw [r1.length]; simpa using h1
  have e2 : j < ys.length := by rw [r2.length]; simpa using h2
  obtain ⟨u, hu, ru⟩ := r1.get (List.getElem?_eq_getElem e1)
  obtain ⟨w', hw, rw'⟩ := r2.get (List.getElem?_eq_getElem e2)
  have eu : us.toArray[j] = u := by
    obtain ⟨_, z⟩ := List.getElem?_eq_some_iff.mp hu
    simpa using z
  have ew : ws.toArray[j] = w' := by
    obtain ⟨_, z⟩ := List.getElem?_eq_some_iff.mp hw
    simpa using z
  have f := List.all_eq_true.mp hf (xs[j], ys[j]) (by
    rw [List.mem_iff_getElem]
    exact ⟨j, by rw [List.length_zip]; omega, by rw [List.getElem_zip]⟩)
  rw [Bool.and_eq_true] at f
  rw [eu, ew, List.getD_eq_getElem?_getD, List.getD_eq_getElem?_getD, List.getElem?_eq_getElem e1, List.getElem?_eq_getElem e2]
  exact eqAt_V ru rw' f.1 f.2
section
variable {X : Cx}
theorem op_eqF (hu : X.A.units < cLine) : OpR X (compareOp .Eq) (rEqF X.K) := by
  intro pins s σ H x y v u Q I rx ry h
  obtain ⟨a, b, xs, ys, rfl, rfl, ha, hb, hf, q⟩ := h
  obtain rfl : v = Value.ref a := rx
  obtain rfl : u = Value.ref b := ry
  obtain ⟨us, r1, p1, _⟩ := I.list ha
  obtain ⟨ws, r2, p2, _⟩ := I.list hb
  by_cases hl : xs.length = ys.length
  · refine SeqAt.eq_listAt (e := fun j => eqV (xs.getD j .non) (ys.getD j .non)) p1.isList p2.isList (by simpa [← r1.length, ← r2.length] using hl) hu (flat_at r1 r2 hf) ?_
    have e : (List.range us.toArray.size) = List.range xs.length := by rw [List.size_toArray, ← r1.length]
    rw [e, ← eqLs_range hl]
    exact ⟨.bl _, H, I, rfl, q⟩
  · rw [eqLs_len hl] at q
    refine SeqAt.eq_list_lengthsAt p1.isList p2.isList ?_ hu ⟨.bl _, H, I, rfl, q⟩
    rw [List.size_toArray, List.size_toArray, ← r1.length, ← r2.length]
    simpa using hl
theorem op_neF (hu : X.A.units < cLine) : OpR X (compareOp .NotEq) (rNeF X.K) := by
  intro pins s σ H x y v u Q I rx ry h
  obtain ⟨a, b, xs, ys, rfl, rfl, ha, hb, hf, q⟩ := h
  obtain rfl : v = Value.ref a := rx
  obtain rfl : u = Value.ref b := ry
  obtain ⟨us, r1, p1, _⟩ := I.list ha
  obtain ⟨ws, r2, p2, _⟩ := I.list hb
  by_cases hl : xs.length = ys.length
  · refine SeqAt.RcNeAt.lists (e := fun j => eqV (xs.getD j .non) (ys.getD j .non)) p1.isList p2.isList (by simpa [← r1.length, ← r2.length] using hl) hu (flat_at r1 r2 hf) _ _ _ _ ?_
    have e : (List.range us.toArray.size) = List.range xs.length := by rw [List.size_toArray, ← r1.length]
    rw [e, ← eqLs_range hl]
    exact ⟨.bl _, H, I, rfl, q⟩
  · rw [eqLs_len hl] at q
    refine SeqAt.RcNeAt.lists_lengths p1.isList p2.isList ?_ hu _ _ _ _ ⟨.bl _, H, I, rfl, q⟩
    rw [List.size_toArray, List.size_toArray, ← r1.length, ← r2.length]
    simpa using hl
end
theorem eqLs_nil (xs : List V) : eqLs xs [] = xs.isEmpty := by cases xs <;> rfl
theorem flatP_nil (xs : List V) : flatP xs [] = true := by unfold flatP; rw [List.zip_nil_right]; rfl
end Cm
namespace Cm
open PySem PySem.Spec PyProof.Rows L2
/-! ### heaps as letters -/
/-- all but i stands as it stood -/
def But (i : Addr) (H H' : Hp) : Prop := ∀ b o, b ≠ i → H b = some o → H' b = some o
theorem But.refl {i : Addr} {H : Hp} : But i H H := fun _ _ _ h => h
theorem But.trans {i : Addr} {H H1 H2 : Hp} (a : But i H H1) (b : But i H1 H2) : But i H H2 := fun c o n h => b c o n (a c o n h)
theorem Same.but {i : Addr} {H H1 : Hp} (a : Same H H1) : But i H H1 := fun c o _ h => a c o h
theorem but_upd {H : Hp} {i : Addr} {o : HO} : But i H (upd H i o) := fun b u n e => by
  rw [upd_ne n]
  exact e
theorem sqL {K : PySem.W.Frag} {H : Hp} {a : Addr} {xs : List V} (h : H a = some (.lst xs)) : SqL K H a xs := .inl (.inl h)
theorem sqT {K : PySem.W.Frag} {H : Hp} {a : Addr} {xs : List V} (h : H a = some (.tup xs)) : SqT K H a xs := .inl (.inl h)
theorem sqT_same {K : PySem.W.Frag} {H H' : Hp} {a : Addr} {xs : List V} (e : Same H H') (h : SqT K H a xs) : SqT K H' a xs := by
  rcases h with (h | ⟨o, h⟩) | h
  · exact .inl (.inl (e _ _ h))
  · exact .inl (.inr ⟨o, e _ _ h⟩)
  · exact .inr h
theorem cutV_last (xs : List V) : cutV xs (some (-1)) none = match xs.getLast? with | some x => [x] | none => [] := by
  cases xs with
  | nil => rfl
  | cons x xs =>
    unfold cutV
    show List.take ((x :: xs).length - HT.sIx (x :: xs).length 0 (some (-1))) (List.drop (HT.sIx (x :: xs).length 0 (some (-1))) (x :: xs)) = _
    have e : HT.sIx (x :: xs).length 0 (some (-1)) = (x :: xs).length - 1 := by
      show (if (-1 : Int) < 0 then ((-1 : Int) + ((x :: xs).length : Int)).toNat else min (-1 : Int).toNat (x :: xs).length) = _
      rw [if_pos (by decide)]
      simp only [List.length_cons]
      omega
    rw [e, List.getLast?_eq_getElem?]
    have hlt : (x :: xs).length - 1 < (x :: xs).length := by simp
    rw [List.getElem?_eq_getElem hlt, List.drop_eq_getElem_cons hlt, List.drop_eq_nil_of_le (by omega), List.take_of_length_le (by simp)]
theorem eq_true_last (wi : List Bool) : eqLs (cutV (wi.map V.bl) (some (-1)) none) [V.bl true] = decide (wi.getLast? = some true) := by
  rw [cutV_last, List.getLast?_map]
  cases wi.getLast? with
  | none => rfl
  | some b => cases b <;> rfl
theorem flat_last (wi : List Bool) : flatP (cutV (wi.map V.bl) (some (-1)) none) [V.bl true] = true := by
  rw [cutV_last, List.getLast?_map]
  cases wi.getLast? with
  | none => rfl
  | some b => rfl
theorem atI_last {α : Type} (xs : List α) : atI xs (-1) = xs.getLast? := by
  cases xs with
  | nil => rfl
  | cons x xs =>
    unfold atI ixN
    rw [if_neg (by decide), if_pos (by simp only [List.length_cons]; omega), List.getLast?_eq_getElem?]
    simp only [Option.bind_some, List.length_cons]
    congr 1
    omega
theorem paired_last {α β : Type} {R : α → β → Prop} : ∀ {xs : List α} {ys : List β} {y : β}, Paired R xs ys → ys.getLast? = some y → ∃ x, xs.getLast? = some x ∧ R x y
  | _, _, _, .nil, h => by cases h
  | _, _, y, .cons (a := a) (b := b) r .nil, h => by
    simp at h
    subst h
    exact ⟨_, rfl, r⟩
  | _, _, y, .cons r (.cons r2 t), h => by
    rw [List.getLast?_cons_cons] at h
    obtain ⟨x, h1, h2⟩ := paired_last (.cons r2 t) h
    exact ⟨x, by rw [List.getLast?_cons_cons]; exact h1, h2⟩
theorem Paired.imp {α β : Type} {R R' : α → β → Prop} (f : ∀ a b, R a b → R' a b) : ∀ {xs : List α} {ys : List β}, Paired R xs ys → Paired R' xs ys
  | _, _, .nil => .nil
  | _, _, .cons r t => .cons (f _ _ r) (Paired.imp f t)
theorem paired_snoc {α β : Type} {R : α → β → Prop} {x : α} {y : β} : ∀ {xs : List α} {ys : List β}, Paired R xs ys → R x y → Paired R (xs ++ [x]) (ys ++ [y])
  | _, _, .nil, r => .cons r .nil
  | _, _, .cons q t, r => .cons q (paired_snoc t r)
end Cm
namespace Cm
open PySem PySem.Spec PyProof.Rows L2
/-- a weaker reading -/
theorem PE.imp {X : Cx} {e : Expr} {t t' : TE} (h : PE X e t) (i : ∀ σ H Q, t' σ H Q → t σ H Q) : PE X e t' := ⟨fun pins s σ H Q I q => h.run pins s σ H Q I (i σ H Q q)⟩
theorem PA.imp {X : Cx} {e : List Expr} {t t' : TA} (h : PA X e t) (i : ∀ σ H Q, t' σ H Q → t σ H Q) : PA X e t' := ⟨fun pos pins s σ H Q I q => h.run pos pins s σ H Q I (i σ H Q q)⟩
/-! ### written data -/
def rm (G : Hp) (a : Addr) : Hp := fun b => if b = a then none else G b
theorem rm_sub {G : Hp} {a : Addr} : Same (rm G a) G := fun b o e => by
  unfold rm at e
  by_cases h : b = a
  · rw [if_pos h] at e
    cases e
  · rw [if_neg h] at e
    exact e
theorem rm_self {G : Hp} {a : Addr} : rm G a a = none := if_pos rfl
theorem rm_same {G G' : Hp} {a : Addr} (s : Same G G') : Same (rm G a) (rm G' a) := fun b o e => by
  by_cases h : b = a
  · rw [h, rm_self] at e
    cases e
  · have e1 : G b = some o := rm_sub _ _ e
    exact (if_neg h).trans (s _ _ e1)
theorem rm_of {G G' : Hp} {a : Addr} (s : Same G G') (n : G a = none) : Same G (rm G' a) := fun b o e => (if_neg (ne_of_none e n)).trans (s _ _ e)
mutual
inductive Lit : Hp → V → PyData → Prop
  | non {G : Hp} : Lit G .non .none
  | bl {G : Hp} (b : Bool) : Lit G (.bl b) (.bool b)
  | int {G : Hp} (i : Int) : Lit G (.int i) (.int i)
  | str {G : Hp} (x : Str) : Lit G (.str x) (.str x)
  | lst {G : Hp} {a : Addr} {xs : List V} {ds : List PyData} : G a = some (.lst xs) → Lits (rm G a) xs ds → Lit G (.ref a) (.list ds)
  | tup {G : Hp} {a : Addr} {xs : List V} {ds : List PyData} : G a = some (.tup xs) → Lits G xs ds → Lit G (.ref a) (.tuple ds)
inductive Lits : Hp → List V → List PyData → Prop
  | nil {G : Hp} : Lits G [] []
  | cons {G : Hp} {v : V} {vs : List V} {d : PyData} {ds : List PyData} : Lit G v d → Lits G vs ds → Lits G (v :: vs) (d :: ds)
end
mutual
theorem Lit.same : ∀ {G G' : Hp} {d : PyData} {v : V}, Lit G v d → Same G G' → Lit G' v d
  | _, _, _, _, .non, _ => .non
  | _, _, _, _, .bl b, _ => .bl b
  | _, _, _, _, .int i, _ => .int i
  | _, _, _, _, .str x, _ => .str x
  | _, _, _, _, .lst h r, s => .lst (s _ _ h) (Lits.same r (rm_same s))
  | _, _, _, _, .tup h r, s => .tup (s _ _ h) (Lits.same r s)
theorem Lits.same : ∀ {G G' : Hp} {ds : List PyData} {vs : List V}, Lits G vs ds → Same G G' → Lits G' vs ds
  | _, _, _, _, .nil, _ => .nil
  | _, _, _, _, .cons h r, s => .cons (Lit.same h s) (Lits.same r s)
end
mutual
theorem Lit.dp0 {K : PySem.W.Frag} {H : Hp} : ∀ {G : Hp} {d : PyData} {v : V}, Lit G v d → Same G H → Dp K H v d
  | _, _, _, .non, _ => .non
  | _, _, _, .bl b, _ => .bl b
  | _, _, _, .int i, _ => .int i
  | _, _, _, .str x, _ => .str x
  | _, _, _, .lst h r, s => .lst (sqL (s _ _ h)) (Lits.dp0 r (rm_sub.trans s))
  | _, _, _, .tup h r, s => .tup (sqT (s _ _ h)) (Lits.dp0 r s)
theorem Lits.dp0 {K : PySem.W.Frag} {H : Hp} : ∀ {G : Hp} {ds : List PyData} {vs : List V}, Lits G vs ds → Same G H → DpAll K H vs ds
  | _, _, _, .nil, _ => .nil
  | _, _, _, .cons h r, s => .cons (Lit.dp0 h s) (Lits.dp0 r s)
end
theorem Lit.dp {K : PySem.W.Frag} {H : Hp} {d : PyData} {v : V} (h : Lit H v d) : Dp K H v d := h.dp0 (Same.refl H)
theorem Lits.length {G : Hp} : ∀ {ds : List PyData} {vs : List V}, Lits G vs ds → vs.length = ds.length
  | _, _, .nil => rfl
  | _, _, .cons _ r => by rw [List.length_cons, List.length_cons, Lits.length r]
theorem Lits.get {G : Hp} : ∀ {ds : List PyData} {vs : List V} {i : Nat} {v : V}, Lits G vs ds → vs[i]? = some v → ∃ d, ds[i]? = some d ∧ Lit G v d
  | _, _, _, _, .nil, h => by simp at h
  | _, _, 0, _, .cons h r, e => by
    simp at e
    subst e
    exact ⟨_, rfl, h⟩
  | _, _, i + 1, _, .cons h r, e => by
    obtain ⟨d, h1, h2⟩ := Lits.get (i := i) r (by simpa using e)
    exact ⟨d, by simpa using h1, h2⟩
theorem Lits.append {G : Hp} : ∀ {ds es : List PyData} {vs ws : List V}, Lits G vs ds → Lits G ws es → Lits G (vs ++ ws) (ds ++ es)
  | _, _, _, _, .nil, r => r
  | _, _, _, _, .cons h t, r => .cons h (Lits.append t r)
/-- G's objects are new over H -/
def New (H G : Hp) : Prop := ∀ a o, G a = some o → H a = none
def tLit (d : PyData) : TE := fun _ H Q => ∀ v G H', New H G → Lit G v d → Same H H' → Same G H' → Q v H'
def tLits (ds : List PyData) : TA := fun _ H Q => ∀ vs G H', New H G → Lits G vs ds → Same H H' → Same G H' → Q vs H'
def unH (G G' : Hp) : Hp := fun a => (G a).or (G' a)
theorem unH_l {G G' : Hp} : Same G (unH G G') := fun a o h => by
  unfold unH
  rw [h]
  rfl
theorem unH_r {G G' : Hp} (h : ∀ a o, G' a = some o → G a = none) : Same G' (unH G G') := fun a o e => by
  unfold unH
  rw [h a o e, e]
  rfl
theorem unH_of {G G' : Hp} {a : Addr} {o : HO} (h : unH G G' a = some o) : G a = some o ∨ G' a = some o := by
  unfold unH at h
  cases q : G a with
  | none => rw [q] at h; exact .inr h
  | some u => rw [q] at h; exact .inl h
section
variable {X : Cx} {pos : Pos} {j : Nat}
theorem pl_of {e : Expr} {v : V} {d : PyData} (h : PE X e (tC v)) (l : Lit (fun _ => none) v d) : PE X e (tLit d) := PE.imp h fun σ H Q q => q v (fun _ => none) H (fun _ _ e => by cases e) l (Same.refl H) (fun _ _ e => by cases e)
theorem pl_int {i : Int} : PE X (.Constant (.int i) j pos) (tLit (.int i)) := pl_of pe_int (.int i)
theorem pl_bl {b : Bool} : PE X (.Constant (.bool b) j pos) (tLit (.bool b)) := pl_of pe_bl (.bl b)
theorem pl_non : PE X (.Constant .none j pos) (tLit .none) := pl_of pe_non .non
theorem pl_str (l : List Nat) {x : Str} (h : x = ⟨l.toArray⟩ := by decide +kernel) : PE X (.Constant (.str x) j pos) (tLit (.str ⟨l.toArray⟩)) := pl_of (pe_strL l h) (.str _)
theorem pls_nil : PA X [] (tLits []) := PA.imp pa_nil fun σ H Q q => q [] (fun _ => none) H (fun _ _ e => by cases e) .nil (Same.refl H) (fun _ _ e => by cases e)
theorem pls_cons {e : Expr} {es : List Expr} {d : PyData} {ds : List PyData} (h : PE X e (tLit d)) (r : PA X es (tLits ds)) (hs : starEach (e :: es) X.env = (false, eval e X.env) :: starEach es X.env := by rfl) : PA X (e :: es) (tLits (d :: ds)) :=
  PA.imp (pa_cons h r hs) fun σ H Q q => by
    intro v G H1 n1 l1 s1 g1 vs G2 H2 n2 l2 s2 g2
    have dj : ∀ a o, G2 a = some o → G a = none := fun a o e => by
      cases q : G a with
      | none => rfl
      | some u =>
        have := n2 a o e
        rw [g1 a u q] at this
        cases this
    refine q (v :: vs) (unH G G2) H2 (fun a o e => ?_) (.cons (l1.same unH_l) (l2.same (unH_r dj))) (s1.trans s2) (fun a o e => ?_)
    · rcases unH_of e with e | e
      · exact n1 a o e
      · exact s1.free (n2 a o e)
    · rcases unH_of e with e | e
      · exact s2 _ _ (g1 _ _ e)
      · exact g2 _ _ e
theorem new_one {H G H1 : Hp} {p : Addr} {o : HO} {v : V} {d : PyData} (n : New H G) (s : Same H H1) (g : Same G H1) (hp : H1 p = none) : New H (unH G fun a => if a = p then some o else none) ∧ Same G (unH G fun a => if a = p then some o else none) ∧ (unH G fun a => if a = p then some o else none) p = some o ∧ Same (unH G fun a => if a = p then some o else none) (upd H1 p o) := by
  have gp : G p = none := g.free hp
  refine ⟨fun a u e => ?_, unH_l, ?_, fun a u e => ?_⟩
  · rcases unH_of e with e | e
    · exact n a u e
    · by_cases h : a = p
      · rw [h]
        exact s.free hp
      · rw [if_neg h] at e
        cases e
  · unfold unH
    rw [gp]
    show (if p = p then some o else none) = some o
    rw [if_pos rfl]
  · rcases unH_of e with e | e
    · rw [upd_ne (ne_of_none e gp)]
      exact g _ _ e
    · by_cases h : a = p
      · rw [if_pos h] at e
        rw [h, upd_same]
        exact e
      · rw [if_neg h] at e
        cases e
theorem pl_tup {es : List Expr} {ds : List PyData} {x1} (h : PA X es (tLits ds)) (hz : ds.length ≤ sizeLine := by decide) : PE X (.Tuple es x1 pos) (tLit (.tuple ds)) :=
  PE.imp (pe_tup h) fun σ H Q q => by
    intro vs G H1 n l s g
    refine ⟨by rw [l.length]; exact hz, fun p hp => ?_⟩
    obtain ⟨a1, a2, a3, a4⟩ := new_one (o := .tup vs) (v := .non) (d := .none) n s g hp
    exact q (.ref p) _ (upd H1 p (.tup vs)) a1 (.tup a3 (l.same a2)) (s.trans (same_new hp)) a4
theorem pl_lst {es : List Expr} {ds : List PyData} (h : PA X es (tLits ds)) (hz : ds.length ≤ sizeLine := by decide) : PE X (.List es pos) (tLit (.list ds)) :=
  PE.imp (pe_lst h) fun σ H Q q => by
    intro vs G H1 n l s g
    refine ⟨by rw [l.length]; exact hz, fun p hp => ?_⟩
    obtain ⟨a1, a2, a3, a4⟩ := new_one (o := .lst vs) (v := .non) (d := .none) n s g hp
    exact q (.ref p) _ (upd H1 p (.lst vs)) a1 (.lst a3 (l.same (rm_of a2 (g.free hp)))) (s.trans (same_new hp)) a4
theorem pl_neg {i : Int} {pos2 : Pos} : PE X (.UnaryOp .USub (.Constant (.int i) j pos) pos2) (tLit (.int (-i))) :=
  PE.imp (pe_un un_neg pe_int) fun σ H Q q => ⟨i, rfl, q (.int (-i)) (fun _ => none) H (fun _ _ e => by cases e) (.int _) (Same.refl H) (fun _ _ e => by cases e)⟩
end
/-! ### x * n of a text -/
theorem mul_list (l : List Nat) (n : Nat) : Txt.mul ⟨l.toArray⟩ (n : Int) = ⟨(List.replicate n l).flatten.toArray⟩ := by
  unfold Txt.mul
  by_cases h0 : n = 0
  · subst h0
    rfl
  · rw [if_neg (by omega)]
    by_cases h1 : ((n : Int) == 1 || (⟨l.toArray⟩ : Str).length == 0) = true
    · rw [if_pos h1]
      rw [Bool.or_eq_true, beq_iff_eq, beq_iff_eq, Tx.str_len] at h1
      rcases h1 with h1 | h1
      · have : n = 1 := by omega
        subst this
        simp
      · have : l = [] := List.length_eq_zero_iff.mp h1
        subst this
        simp
    · rw [if_neg h1]
      congr 1
      have key : ∀ (m : Nat) (acc : List Nat), (List.replicate m l.toArray).foldl (· ++ ·) acc.toArray = (acc ++ (List.replicate m l).flatten).toArray := by
        intro m
        induction m with
        | zero => intro acc; simp
        | succ m ih =>
          intro acc
          rw [List.replicate_succ, List.foldl_cons, List.append_toArray, ih, List.replicate_succ, List.flatten_cons, List.append_assoc]
      have := key n []
      simpa using this
theorem op_mulS {X : Cx} : OpR X (binaryOp .Mult) (fun x y H Q => ∃ (l : List Nat) (n : Nat), x = S l ∧ y = .int (n : Int) ∧ l.length * n ≤ 100000 ∧ n ≤ 100000 ∧ Q (S (List.replicate n l).flatten) H) := by
  intro pins s σ H x y v u Q I rx ry h
  obtain ⟨l, n, rfl, rfl, hl, hn, q⟩ := h
  obtain ⟨t, rfl⟩ := rx
  obtain ⟨t', rfl⟩ := ry
  refine PySem.SB.mul ⟨?_, ?_, ?_⟩ fun t2 k => ⟨S (List.replicate n l).flatten, H, I.tok k, ⟨t2, by rw [mul_list]⟩, q⟩
  · rw [Bool.or_eq_false_iff]
    exact ⟨decide_eq_false (by omega), decide_eq_false (by omega)⟩
  · intro h1 h2
    rw [Tx.str_len]
    have h3 : 1 ≤ n := by omega
    have : (l.length : Int) ≤ 100000 := by
      have : l.length ≤ l.length * n := Nat.le_mul_of_pos_right _ h3
      omega
    have h4 : (100000 : Int) ≤ (2 ^ 63 - 1) / (n : Int) := by
      rw [Int.le_ediv_iff_mul_le (by omega)]
      omega
    omega
  · intro h1 h2
    rw [Tx.str_len, Int.toNat_natCast]
    exact decide_eq_false (by have : (100000 : Nat) ≤ sizeLine := by decide
                              omega)
theorem lit_str {G : Hp} {v : V} {x : Str} (h : Lit G v (.str x)) : v = .str x := by
  cases h
  rfl
section
variable {X : Cx} {pos : Pos} {j : Nat}
theorem pl_addS {a b : Expr} {x y : List Nat} (ha : PE X a (tLit (.str ⟨x.toArray⟩))) (hb : PE X b (tLit (.str ⟨y.toArray⟩))) (hz : x.length + y.length ≤ sizeLine := by decide) : PE X (.BinOp a .Add b pos) (tLit (.str ⟨(x ++ y).toArray⟩)) :=
  PE.imp (pe_op op_add_str ha hb) fun σ H Q q => by
    intro v G H1 n l s g v2 G2 H2 n2 l2 s2 g2
    cases lit_str l
    cases lit_str l2
    refine ⟨_, _, rfl, rfl, by rw [Tx.str_len, Tx.str_len]; exact hz, ?_⟩
    have e : (⟨x.toArray⟩ : Str) ++ (⟨y.toArray⟩ : Str) = ⟨(x ++ y).toArray⟩ := by
      show (⟨x.toArray ++ y.toArray⟩ : Str) = _
      simp
    rw [e]
    exact q _ (fun _ => none) H2 (fun _ _ e => by cases e) (.str _) (s.trans s2) (fun _ _ e => by cases e)
theorem pl_mulS {l : List Nat} {n : Nat} {x : Str} {p2 p3 : Pos} {j2 : Nat} (h : x = ⟨l.toArray⟩ := by decide +kernel) (hz : l.length * n ≤ 100000 := by decide) (hn : n ≤ 100000 := by decide) : PE X (.BinOp (.Constant (.str x) j p2) .Mult (.Constant (.int (n : Nat)) j2 p3) pos) (tLit (.str ⟨(List.replicate n l).flatten.toArray⟩)) :=
  PE.imp (pe_op op_mulS (pe_strL l h) pe_int) fun σ H Q q => ⟨l, n, rfl, rfl, hz, hn, q _ (fun _ => none) H (fun _ _ e => by cases e) (.str _) (Same.refl H) (fun _ _ e => by cases e)⟩
end
/-! ### a list of rows -/
/-- v is a new list of the written rows ds -/
def RowsV (H0 : Hp) (ds : List PyData) (v : V) (H : Hp) : Prop := ∃ l xs G, v = .ref l ∧ H0 l = none ∧ Same H0 H ∧ H l = some (.lst xs) ∧ G l = none ∧ New H0 G ∧ Same G H ∧ Lits G xs ds ∧ xs.length ≤ 1000
theorem RowsV.same {H0 H : Hp} {ds : List PyData} {v : V} (p : RowsV H0 ds v H) : Same H0 H := by
  obtain ⟨l, xs, G, rfl, nl, s, h, gl, nG, sG, lt, hx⟩ := p
  exact s
theorem RowsV.lit {H G H' : Hp} {v : V} {ds : List PyData} (n : New H G) (l : Lit G v (.list ds)) (s : Same H H') (g : Same G H') (hl : ds.length ≤ 1000) : RowsV H ds v H' := by
  cases l with
  | @lst _ a xs _ h r =>
    refine ⟨a, xs, rm G a, rfl, n _ _ h, s, g _ _ h, rm_self, fun b o e => n b o (rm_sub _ _ e), rm_sub.trans g, r, ?_⟩
    rw [r.length]
    exact hl
theorem RowsV.cat {H0 H1 H2 : Hp} {ds es : List PyData} {v u : V} {Q : VK} (p : RowsV H0 ds v H1) (q : RowsV H1 es u H2) (hl : ds.length + es.length ≤ 1000) (k : ∀ w H3, RowsV H0 (ds ++ es) w H3 → Q w H3) : rCat v u H2 Q := by
  obtain ⟨l, xs, G, rfl, nl, s, h, gl, nG, sG, lt, hx⟩ := p
  obtain ⟨a, zs, G2, rfl, na, s2, h2, ga, nG2, sG2, lt2, hz⟩ := q
  have dj : ∀ b o, G2 b = some o → G b = none := fun b o e => sG.free (nG2 b o e)
  refine ⟨l, a, xs, zs, rfl, rfl, s2 _ _ h, h2, Nat.le_trans (Nat.add_le_add hx hz) (by decide), fun c hc => k _ _ ⟨c, xs ++ zs, unH G G2, rfl, s.free (s2.free hc), (s.trans s2).trans (same_new hc), upd_same, ?_, ?_, ?_, (lt.same unH_l).append (lt2.same (unH_r dj)), ?_⟩⟩
  · unfold unH
    rw [sG.free (s2.free hc), sG2.free hc]
    rfl
  · intro b o e
    rcases unH_of e with e | e
    · exact nG _ _ e
    · exact s.free (nG2 _ _ e)
  · intro b o e
    rcases unH_of e with e | e
    · exact same_new hc _ _ (s2 _ _ (sG _ _ e))
    · exact same_new hc _ _ (sG2 _ _ e)
  · rw [List.length_append, lt.length, lt2.length]
    exact hl
def RowsP (H0 : Hp) (ds : List PyData) (σ : L2.St) (H : Hp) : Prop := ∃ v, σ = [some v] ∧ RowsV H0 ds v H
theorem rows_asg {H0 : Hp} {ds : List PyData} {D : Ends} (hl : ds.length ≤ 1000) (k : ∀ σ H, RowsP H0 ds σ H → D.nx σ H) : tAsg (tLit (.list ds)) (gName 0) D [none] H0 := by
  intro v G H' n l s g
  exact k _ _ ⟨v, rfl, .lit n l s g hl⟩
theorem rows_app {K : PySem.W.Frag} {H0 H : Hp} {σ : L2.St} {ds : List PyData} {d : PyData} {D : Ends} (p : RowsP H0 ds σ H) (hl : ds.length < 1000) (k : ∀ σ H, RowsP H0 (ds ++ [d]) σ H → D.nx σ H) : tDrop (tBM K "list" rAppend (tVar 0) (tCons (tLit d) tNil)) D σ H := by
  obtain ⟨_, rfl, l, xs, G, rfl, nl, s, h, gl, nG, sG, lt, hx⟩ := p
  refine ⟨_, rfl, tyV_lst h, ?_⟩
  intro v G2 H2 n2 l2 s2 g2
  have g2l : G2 l = none := by
    cases q : G2 l with
    | none => rfl
    | some o =>
      have := n2 _ _ q
      rw [h] at this
      cases this
  have dj : ∀ a o, G2 a = some o → G a = none := fun a o e => sG.free (n2 a o e)
  refine ⟨l, xs, v, rfl, rfl, s2 _ _ h, Nat.lt_of_le_of_lt hx (by decide), ?_⟩
  refine k _ _ ⟨_, rfl, l, xs ++ [v], unH G G2, rfl, nl, ?_, upd_same, ?_, ?_, ?_, (lt.same unH_l).append (.cons (l2.same (unH_r dj)) .nil), ?_⟩
  · exact fun b o e => by
      rw [upd_ne (ne_of_none e nl)]
      exact s2 _ _ (s _ _ e)
  · unfold unH
    rw [gl, g2l]
    rfl
  · intro b o e
    rcases unH_of e with e | e
    · exact nG _ _ e
    · exact s.free (n2 _ _ e)
  · intro b o e
    rcases unH_of e with e | e
    · rw [upd_ne (ne_of_none e gl)]
      exact s2 _ _ (sG _ _ e)
    · rw [upd_ne (ne_of_none e g2l)]
      exact g2 _ _ e
  · have e1 := lt.length
    rw [List.length_append]
    simp only [List.length_cons, List.length_nil]
    omega
theorem rows_catE {H0 H : Hp} {σ : L2.St} {ds es : List PyData} {Q : VK} (p : RowsP H0 ds σ H) (hl : ds.length + es.length ≤ 1000) (k : ∀ w H3, RowsV H0 (ds ++ es) w H3 → Q w H3) : tOp rCat (tVar 0) (tLit (.list es)) σ H Q := by
  obtain ⟨_, rfl, p⟩ := p
  refine ⟨_, rfl, ?_⟩
  intro v G H' n l s g
  exact p.cat (.lit n l s g (by omega)) hl k
theorem rows_cat {H0 H : Hp} {σ : L2.St} {ds es : List PyData} {D : Ends} (p : RowsP H0 ds σ H) (hl : ds.length + es.length ≤ 1000) (k : ∀ σ H, RowsP H0 (ds ++ es) σ H → D.nx σ H) : tAsg (tOp rCat (tVar 0) (tLit (.list es))) (gName 0) D σ H := by
  refine rows_catE p hl fun w H3 q => ?_
  obtain ⟨_, rfl, _⟩ := p
  exact k _ _ ⟨w, rfl, q⟩
/-- what such a def promises -/
def spRows (ds : List PyData) : Sp := fun vs H Q _ => vs = [] ∧ ∀ v H', RowsV H ds v H' → Q v H'
theorem rows_ret {H0 H : Hp} {σ : L2.St} {ds : List PyData} {D : Ends} (p : RowsP H0 ds σ H) (k : ∀ v H', RowsV H0 ds v H' → D.rt v H') : tRet (tVar 0) D σ H := by
  obtain ⟨v, rfl, p⟩ := p
  exact ⟨_, rfl, k v H p⟩
end Cm
namespace Cm
open PySem PySem.Spec PyProof.Rows L2
/-- the def of the module's name x, called by the name of its one parameter -/
def OkK (P : Program) (w : World) (K : PySem.W.Frag) (mg : Str → Option Value) (base : Heap) (k : Nat) (x p : Str) (sp : Sp) : Prop :=
  ∃ (f : Addr) (fd : FuncData), mg x = some (.ref f) ∧ PySem.W.keepIn K (.ref f) = true ∧ (∀ (s : Shared) (v : Value), BindsTo s fd ⟨[], [(p, v)]⟩ [(p, v)]) ∧ FnOk P w K mg base (L2.CX P w) k f fd [p] sp
theorem Ok.kw {P : Program} {w : World} {K : PySem.W.Frag} {mg : Str → Option Value} {base : Heap} {k : Nat} {x p : Str} {sp : Sp} {st : Stmt} (O : Ok P w K mg base k x [p] sp) (F : At K mg x st)
    (bd : ∀ (kV doc pm : Value) (an : Option Addr) (cdv ct v : Value), bindArgs (PySem.W.fnOf x x (defArgs st) (defBody st) (defScope st) .none kV doc pm an cdv ct) ⟨[], [(p, v)]⟩ = pure [(p, v)]) : OkK P w K mg base k x p sp := by
  obtain ⟨f, fd, h1, h2, h3, h4, oc, od, osl, h5⟩ := O
  obtain ⟨f', fd', F, hm⟩ := F
  have e : f = f' := by
    rw [h1] at hm
    cases hm
    rfl
  subst e
  obtain ⟨oc', od', dV, kV, doc, pm, an, cdv, ct, osl', rfl, lk, hcd, hD, hK⟩ := F.ex
  rw [lk] at h5
  cases h5
  refine ⟨f, _, h1, h2, fun s v => ?_, h4⟩
  rcases hD with ⟨_, rfl⟩ | ⟨e, _⟩
  · exact .of_eq (bd kV doc pm an cdv ct v)
  · exact absurd rfl e
section
variable {X : Cx} {k : Nat} {x q : Str} {sp : Sp} {E : L2.St → XK} {p pos kpos : Pos} {e : Expr} {te : TE}
theorem pck (O : OkK X.prog X.w X.K X.mg X.base k x q sp) (hr : Room k X.A) (hg : Gl X x) (hx : ∀ σ, PassesAt (L2.CX X.prog X.w) X σ (E σ)) (he : PE X e te)
    (hall : (backToKw pos (keywordEach [⟨some q, e, kpos⟩] X.env)).all (·.1.isSome) = true := by rfl) (hks : (backToKw pos (keywordEach [⟨some q, e, kpos⟩] X.env)).filterMap (·.1) = [q] := by rfl) (hdb : (x == ("__debug__" : Str)) = false := by decide)
    (hpl : ((backTo pos (starEach [] X.env)).any (·.1) || (backToKw pos (keywordEach [⟨some q, e, kpos⟩] X.env)).any (·.1.isNone)) = false := by rfl) :
    PE X (.Call (.Name x p) [] [⟨some q, e, kpos⟩] pos) (tCallS sp E (tCons te tNil)) := by
  obtain ⟨f, fd, h1, h2, h3, h4⟩ := O
  refine ⟨fun pins s σ H Q I h => ?_⟩
  refine wpAny_Call_Name_kw (ld_glob I hg h1 ?_ hdb)
  refine PySem.W.callWith_KW0 (h₀ := X.base) I.ok.mod.kin h2 hall ?_ hpl
  have pk : PK X [⟨some q, e, kpos⟩] (tCons te tNil) := pk_cons he pk_nil
  refine thn (pk.run pos pins s σ H _ I h) fun ws s2 ⟨zs, H2, I2, rz, q2⟩ => ⟨I2.kIn, ?_⟩
  rw [hks]
  have hl : zs.length = 1 := h4.len _ _ _ _ q2
  cases rz with
  | nil => simp at hl
  | @cons a u l us ra rr =>
    cases rr with
    | cons _ _ => simp at hl
    | nil =>
      show wpAny _ _ (call (.ref f) [] [(q, u)]) _ _ _
      refine wpAny_call (codeAny_mono (h4.run X.A X.stack s2 H2 ⟨[], [(q, u)]⟩ [u] [a] Q (E σ) hr I2.env0 (h3 s2 u) (.cons ra .nil) q2) fun r s' hq => ?_)
      cases r with
      | error e => exact hx σ pins H2 s2 e s' I2 hq
      | ok fl =>
        cases fl with
        | ret u => exact I2.after hq
        | next => exact False.elim hq
        | brk => exact False.elim hq
        | cont => exact False.elim hq
/-- positional, where what is raised is wished for at the slots -/
theorem pcS {es : List Expr} {ps : List Str} {t : TA} (O : Ok X.prog X.w X.K X.mg X.base k x ps sp) (hr : Room k X.A) (hg : Gl X x) (hx : ∀ σ, PassesAt (L2.CX X.prog X.w) X σ (E σ)) (ha : PA X (e :: es) t)
    (hdb : (x == ("__debug__" : Str)) = false := by decide) (he : starEach (e :: es) X.env = (false, eval e X.env) :: starEach es X.env := by rfl) (hpl : (backTo pos (starEach es X.env)).any (·.1) = false := by rfl) :
    PE X (.Call (.Name x p) (e :: es) [] pos) (tCallS sp E t) := by
  obtain ⟨f, fd, h1, h2, h3, h4, h5⟩ := O
  exact pe_callS h4 hr hg h1 h2 h3 hx ha hdb he hpl
end
theorem call_intI {X : Cx} : CallR X (.type "int") (fun xs H Q => ∃ i, xs = [.int i] ∧ Q (.int i) H) := fun pins s σ H xs us Q I r h => call_int1 pins s σ H xs us Q I r (.inl h)
theorem cutV_to {xs : List V} (n : Nat) : cutV xs none (some (n : Int)) = xs.take n := by
  unfold cutV
  rw [HT.sIx_none, HT.sIx_nat, List.drop_zero, Nat.sub_zero]
  by_cases h : n ≤ xs.length
  · rw [Nat.min_eq_left h]
  · rw [Nat.min_eq_right (by omega), List.take_of_length_le (Nat.le_refl _), List.take_of_length_le (by omega)]
theorem fmod_nn {a b : Int} (h : 0 < b) : 0 ≤ a.fmod b := by rw [Int.fmod_eq_emod_of_nonneg a (by omega)]; exact Int.emod_nonneg _ (by omega)
theorem fmod_ub {a b : Int} (h : 0 < b) : a.fmod b < b := by rw [Int.fmod_eq_emod_of_nonneg a (by omega)]; exact Int.emod_lt_of_pos _ h
end Cm
namespace W
open PySem PySem.Spec PyProof.Rows L2 Cm Lx
def topS (i : Nat) : Stmt := PySem.Challenge.pw_imagetalk_k02_words_at_their_edges.main.body.getD i (.Pass ⟨0, 0, 0, 0⟩)
abbrev s_run_end : Stmt := topS 16
theorem sc_run_end : FnScope ["text", "at", "signs"] ["text", "at", "signs"] (defScope s_run_end) := ⟨rfl, rfl, rfl, by decide +kernel, rfl, by decide +kernel, by decide +kernel⟩
abbrev s_name_end : Stmt := topS 17
theorem sc_name_end : FnScope ["text", "at", "end"] ["text", "at"] (defScope s_name_end) := ⟨rfl, rfl, rfl, by decide +kernel, rfl, by decide +kernel, by decide +kernel⟩
abbrev s_keyword_end : Stmt := topS 18
theorem sc_keyword_end : FnScope ["text", "at", "end"] ["text", "at"] (defScope s_keyword_end) := ⟨rfl, rfl, rfl, by decide +kernel, rfl, by decide +kernel, by decide +kernel⟩
abbrev s_keywords_end : Stmt := topS 19
theorem sc_keywords_end : FnScope ["text", "at", "end"] ["text", "at"] (defScope s_keywords_end) := ⟨rfl, rfl, rfl, by decide +kernel, rfl, by decide +kernel, by decide +kernel⟩
abbrev s_string_end : Stmt := topS 20
theorem sc_string_end : FnScope ["text", "at", "end"] ["text", "at"] (defScope s_string_end) := ⟨rfl, rfl, rfl, by decide +kernel, rfl, by decide +kernel, by decide +kernel⟩
abbrev s_string_of : Stmt := topS 21
theorem sc_string_of : FnScope ["text"] ["text"] (defScope s_string_of) := ⟨rfl, rfl, rfl, by decide +kernel, rfl, by decide +kernel, by decide +kernel⟩
abbrev s_first_of : Stmt := topS 22
theorem sc_first_of : FnScope ["choices", "text", "at", "word"] ["choices", "text", "at"] (defScope s_first_of) := ⟨rfl, rfl, rfl, by decide +kernel, rfl, by decide +kernel, by decide +kernel⟩
abbrev s_symbol_end : Stmt := topS 23
theorem sc_symbol_end : FnScope ["text", "at", "start", "end"] ["text", "at"] (defScope s_symbol_end) := ⟨rfl, rfl, rfl, by decide +kernel, rfl, by decide +kernel, by decide +kernel⟩
abbrev s_symbol_word : Stmt := topS 24
theorem sc_symbol_word : FnScope ["text", "at", "end", "value"] ["text", "at"] (defScope s_symbol_word) := ⟨rfl, rfl, rfl, by decide +kernel, rfl, by decide +kernel, by decide +kernel⟩
abbrev s_name_word : Stmt := topS 25
theorem sc_name_word : FnScope ["text", "at", "end"] ["text", "at"] (defScope s_name_word) := ⟨rfl, rfl, rfl, by decide +kernel, rfl, by decide +kernel, by decide +kernel⟩
abbrev s_string_word : Stmt := topS 26
theorem sc_string_word : FnScope ["text", "at", "end"] ["text", "at"] (defScope s_string_word) := ⟨rfl, rfl, rfl, by decide +kernel, rfl, by decide +kernel, by decide +kernel⟩
abbrev s_integer_end : Stmt := topS 27
theorem sc_integer_end : FnScope ["text", "at", "negative", "start", "end"] ["text", "at", "negative"] (defScope s_integer_end) := ⟨rfl, rfl, rfl, by decide +kernel, rfl, by decide +kernel, by decide +kernel⟩
abbrev s_sign_word : Stmt := topS 28
theorem sc_sign_word : FnScope ["text", "at", "word"] ["text", "at"] (defScope s_sign_word) := ⟨rfl, rfl, rfl, by decide +kernel, rfl, by decide +kernel, by decide +kernel⟩
abbrev s_word_at : Stmt := topS 29
theorem sc_word_at : FnScope ["text", "at", "negative", "end"] ["text", "at", "negative"] (defScope s_word_at) := ⟨rfl, rfl, rfl, by decide +kernel, rfl, by decide +kernel, by decide +kernel⟩
abbrev s_comment_end : Stmt := topS 30
theorem sc_comment_end : FnScope ["text", "at", "end"] ["text", "at"] (defScope s_comment_end) := ⟨rfl, rfl, rfl, by decide +kernel, rfl, by decide +kernel, by decide +kernel⟩
abbrev s_may_be_negative : Stmt := topS 31
theorem sc_may_be_negative : FnScope ["words", "within", "kind", "value", "place"] ["words", "within"] (defScope s_may_be_negative) := ⟨rfl, rfl, rfl, by decide +kernel, rfl, by decide +kernel, by decide +kernel⟩
abbrev s_note_sign : Stmt := topS 32
theorem sc_note_sign : FnScope ["within", "kind", "value"] ["within", "kind", "value"] (defScope s_note_sign) := ⟨rfl, rfl, rfl, by decide +kernel, rfl, by decide +kernel, by decide +kernel⟩
abbrev s_words_in : Stmt := topS 33
theorem sc_words_in : FnScope ["text", "words", "within", "at", "kind", "value", "end"] ["text"] (defScope s_words_in) := ⟨rfl, rfl, rfl, by decide +kernel, rfl, by decide +kernel, by decide +kernel⟩
abbrev s_words_of : Stmt := topS 34
theorem sc_words_of : FnScope ["source"] ["source"] (defScope s_words_of) := ⟨rfl, rfl, rfl, by decide +kernel, rfl, by decide +kernel, by decide +kernel⟩
abbrev s_is_written : Stmt := topS 8
theorem sc_is_written : FnScope ["thing", "sign"] ["thing"] (defScope s_is_written) := ⟨rfl, rfl, rfl, by decide +kernel, rfl, by decide +kernel, by decide +kernel⟩
structure Md (P : Program) (w : World) (K : PySem.W.Frag) (mg : Str → Option Value) (base : Heap) (CB : Addr) : Prop where
  a_run_end : At K mg "run_end" s_run_end
  a_name_end : At K mg "name_end" s_name_end
  a_keyword_end : At K mg "keyword_end" s_keyword_end
  a_keywords_end : At K mg "keywords_end" s_keywords_end
  a_string_end : At K mg "string_end" s_string_end
  a_string_of : At K mg "string_of" s_string_of
  a_first_of : At K mg "first_of" s_first_of
  a_symbol_end : At K mg "symbol_end" s_symbol_end
  a_symbol_word : At K mg "symbol_word" s_symbol_word
  a_name_word : At K mg "name_word" s_name_word
  a_string_word : At K mg "string_word" s_string_word
  a_integer_end : At K mg "integer_end" s_integer_end
  a_sign_word : At K mg "sign_word" s_sign_word
  a_word_at : At K mg "word_at" s_word_at
  a_comment_end : At K mg "comment_end" s_comment_end
  a_may_be_negative : At K mg "may_be_negative" s_may_be_negative
  a_note_sign : At K mg "note_sign" s_note_sign
  a_words_in : At K mg "words_in" s_words_in
  a_words_of : At K mg "words_of" s_words_of
  a_is_written : At K mg "is_written" s_is_written
  g_len : mg "len" = none
  g_max : mg "max" = none
  g_int : mg "int" = none
  g_all : mg "all" = none
  g_isinstance : mg "isinstance" = none
  g_str : mg "str" = none
  g_range : mg "range" = none
  g_zip : mg "zip" = none
  g_min : mg "min" = none
  g_sum : mg "sum" = none
  g_tuple : mg "tuple" = none
  c_MOST_NAME : GInt mg "MOST_NAME" 40
  c_LETTERS : GStr mg "LETTERS" kLETTERS
  c_DIGITS : GStr mg "DIGITS" kDIGITS
  c_NAME_SIGNS : GStr mg "NAME_SIGNS" kNAME_SIGNS
  c_MOST_SIGNS : GInt mg "MOST_SIGNS" 2000
  c_MOST_DIGITS : GInt mg "MOST_DIGITS" 60
  c_OPERATORS_FIRST : GTup K mg "OPERATORS_FIRST" (kOPERATORS_FIRST.map S)
  c_SIGNS_FIRST : GTup K mg "SIGNS_FIRST" (kSIGNS_FIRST.map S)
  c_ENDS : GTup K mg "ENDS" (kENDS.map S)
  c_CLOSING : GTup K mg "CLOSING" (kCLOSING.map S)
  x_BadSource : Err1 P w K mg base "BadSource" "place" CB
/-! ### the promises -/
abbrev BT (t : List Nat) : Prop := t.length ≤ 100000
def spRunEnd : Sp := fun vs H Q _ => ∃ (t sg : List Nat) (a : Nat), vs = [S t, .int a, S sg] ∧ BT t ∧ Q (.int (a + runLen sg (t.drop a) : Nat)) H
def spTA (f : List Nat → Nat) : Sp := fun vs H Q _ => ∃ (t : List Nat) (a : Nat), vs = [S t, .int a] ∧ BT t ∧ a ≤ t.length ∧ Q (.int (a + f (t.drop a) : Nat)) H
def oN (a : Nat) : Option Nat → Int
  | some n => ((a + n : Nat) : Int)
  | none => -1
def spStrEnd : Sp := fun vs H Q _ => ∃ (t : List Nat) (a : Nat), vs = [S t, .int a] ∧ BT t ∧ a ≤ t.length ∧ Q (.int (oN a (strLen (t.drop a)))) H
def spSymEnd : Sp := fun vs H Q _ => ∃ (t : List Nat) (a : Nat), vs = [S t, .int a] ∧ BT t ∧ a < t.length ∧ Q (.int (oN a (symLen (t.drop a)))) H
def spStrOf : Sp := fun vs H Q _ => ∃ (t : List Nat), vs = [S t] ∧ BT t ∧ Q (S (unq t)) H
def spFirst (K : PySem.W.Frag) : Sp := fun vs H Q _ => ∃ (c : Addr) (cs : List (List Nat)) (t : List Nat) (a : Nat), vs = [.ref c, S t, .int a] ∧ SqT K H c (cs.map S) ∧ BT t ∧ a ≤ t.length ∧ Q (S (firstOf cs (t.drop a))) H
def WR (CB : Addr) (a : Nat) (H : Hp) (Q : VK) (E : XK) : Option Lx.Tok → Prop
  | some (k, v, n) => ∀ p H', Same H H' → H p = none → H' p = some (.tup [S k, v, .int ((a + n : Nat) : Int)]) → Q (.ref p) H'
  | none => ∀ d H', Same H H' → H d = none → H' d = some (.xd [("place", .int (a : Int))]) → E (.ref CB) (some d) H'
def spWord (CB : Addr) (f : List Nat → Option Lx.Tok) : Sp := fun vs H Q E => ∃ (t : List Nat) (a : Nat), vs = [S t, .int a] ∧ BT t ∧ a < t.length ∧ WR CB a H Q E (f (t.drop a))
def spIntEnd : Sp := fun vs H Q _ => ∃ (t : List Nat) (a : Nat) (neg : Bool), vs = [S t, .int a, .bl neg] ∧ BT t ∧ a < t.length ∧ Q (.int (a + intLen (t.drop a) neg : Nat)) H
def spWordAt (CB : Addr) : Sp := fun vs H Q E => ∃ (t : List Nat) (a : Nat) (neg : Bool), vs = [S t, .int a, .bl neg] ∧ BT t ∧ a < t.length ∧ WR CB a H Q E (wordAt (t.drop a) neg)
def spComment (CB : Addr) : Sp := fun vs H Q E => ∃ (t : List Nat) (a : Nat), vs = [S t, .int a] ∧ BT t ∧ a < t.length ∧ (match commentLen (t.drop a) with
  | some n => Q (.int (a + n : Nat)) H
  | none => ∀ d H', Same H H' → H d = none → H' d = some (.xd [("place", .int (a : Int))]) → E (.ref CB) (some d) H')
theorem headD_drop {t : List Nat} {a : Nat} (h : a < t.length) : (t.drop a).headD 0 = t[a] := by
  rw [List.drop_eq_getElem_cons h]
  rfl
def fnd (t : List Nat) (b : Nat) : Int := match Tx.findFrom t 39 b with
  | some k => (k : Int)
  | none => -1
theorem q_int {Q : VK} {H : Hp} {i j : Int} (k : Q (.int i) H) (e : i = j) : Q (.int j) H := e ▸ k
section
variable {P : Program} {w : World} {K : PySem.W.Frag} {mg : Str → Option Value} {base : Heap} {CB : Addr}
theorem ok_run_end (M : Md P w K mg base CB) : Ok P w K mg base 1 "run_end" ["text", "at", "signs"] spRunEnd := by
  refine mk M.a_run_end sc_run_end (fun _ _ _ _ _ _ us hl => match us, hl with | [_, _, _], _ => rfl) (fun vs H Q E h => ?_) (fun f cdv A outer s H vs Q E hr h => ?_)
  · obtain ⟨t, sg, a, rfl, _⟩ := h
    rfl
  · obtain ⟨t, sg, a, rfl, ht, k⟩ := h
    have hz := szl ht
    refine ⟨_, (pss_cons (ps_while (passes_of rfl) (PW.pt (pw_and (pt_cmpR op_lt (pv 1) (pe_callB call_len_str (by rfl) M.g_len PySem.boot_len (pa_cons (pv 0) pa_nil)) (nomark _)) (pw_and1 (pt_cmpR op_in_sign (pe_ix ix_str (pv 0) (pv 1) (fun _ _ => rfl)) (pv 2) (by rfl))))) (pss_one (ps_aug (i := 1) sc_run_end.nd rfl (.inl rfl) pe_int ip_add)))
      (pss_one (ps_ret (pv 1)))), ?_⟩
    show tSeq (tWhile _ _) _ _ [some (S t), some (.int a), some (S sg)] H
    refine ⟨fun m σ H' => ∃ b : Nat, σ = [some (S t), some (.int b), some (S sg)] ∧ H' = H ∧ b + runLen sg (t.drop b) = a + runLen sg (t.drop a) ∧ m = t.length - b, ⟨_, a, rfl, rfl, rfl, rfl⟩, ?_⟩
    rintro m σ H' ⟨b, rfl, rfl, hb, rfl⟩
    simp only [L2.tSeq, L2.tRet, L2.tVar, L2.tAnd, L2.tOr, L2.tNot, L2.tTest, L2.tOp, L2.tUn, L2.rU, L2.tCB, L2.tCons, L2.tNil, L2.rIxS, L2.rI0, L2.rI, L2.rEq, L2.rNe, L2.tAug, L2.ipI, L2.tC, L2.tIfS, L2.tIf, L2.tCall, L2.tAsg, L2.gName, L2.tSl, L2.rSlS, L2.tPart, L2.tNoPart, L2.tBM, L2.tBM0, L2.tB, L2.tAndV, L2.tOrV, L2.tNotV, L2.tDrop, L2.tNext, L2.tChain, L2.tPar, Cm.tErr, Cm.tGT, L2.tTup, L2.tLst,
  List.getElem?_cons_zero, List.getElem?_cons_succ, Option.some.injEq, exists_eq_left', exists_eq_left, exists_eq', exists_eq, exists_and_left, exists_and_right, exists_const, List.cons.injEq, and_true, true_and, L2.V.str.injEq, L2.V.int.injEq, L2.V.bl.injEq, L2.V.ref.injEq, PySem.Str.mk.injEq, Tx.arr1, Tx.str_len, Tx.at_nat, Tx.cut_nat, Tx.find_one,
  and_assoc, Int.ofNat_inj, Nat.add_sub_cancel_left, Lx.take1_eq, decide_eq_true_eq, Bool.not_eq_true', decide_eq_false_iff_not, Int.ofNat_lt, Int.ofNat_le, Bool.false_eq_true, if_false, if_true, List.set_cons_zero, List.set_cons_succ, List.append_nil, List.nil_append, ↓reduceIte, Cm.nat_succ, Cm.nat_add, Cm.nat_two, List.toList_toArray, not_true, not_false_iff, Cm.toArr_inj, Cm.two_one, Cm.tyV_str, Cm.scal_ss, Cm.scal_ii, Cm.scal_bb, Cm.cb_K, hz]
    split
    · rename_i hlt
      refine ⟨_, List.getElem?_eq_getElem hlt, ?_⟩
      rw [List.drop_eq_getElem_cons hlt, runLen_cons] at hb
      split
      · rename_i hx
        refine ⟨_, fun _ _ z => z, t.length - (b + 1), by omega, b + 1, rfl, rfl, ?_, rfl⟩
        rw [if_pos hx] at hb
        omega
      · rename_i hx
        rw [if_neg hx] at hb
        exact q_int k (by omega)
    · rename_i hlt
      rw [List.drop_eq_nil_of_le (by omega), runLen_nil] at hb
      exact q_int k (by omega)
theorem ok_name_end (M : Md P w K mg base CB) : Ok P w K mg base 2 "name_end" ["text", "at"] (spTA nameLen) := by
  refine mk M.a_name_end sc_name_end (fun _ _ _ _ _ _ us hl => match us, hl with | [_, _], _ => rfl) (fun vs H Q E h => ?_) (fun f cdv A outer s H vs Q E hr h => ?_)
  · obtain ⟨t, a, rfl, _⟩ := h
    rfl
  · obtain ⟨t, a, rfl, ht, ha, k⟩ := h
    have hz := szl ht
    refine ⟨_, (pss_cons (ps_if (PW.pt (pw_or (pt_cmpR op_eq (pv 1) (pe_callB call_len_str (by rfl) M.g_len PySem.boot_len (pa_cons (pv 0) pa_nil)) (nomark _)) (pw_or1 (pt_cmpR op_notIn_sign (pe_ix ix_str (pv 0) (pv 1) (fun _ _ => rfl)) (pn_str (by rfl) M.c_LETTERS) (by rfl))))) (pss_one (ps_ret (pv 1))) pss_nil)
      (pss_cons (ps_asg (pc (ok_run_end M) (hr.mono (by decide)) (by rfl) psb (pa_cons (pv 0) (pa_cons (pv 1) (pa_cons (pn_str (by rfl) M.c_NAME_SIGNS) pa_nil)))) (pg_name (i := 2) sc_name_end.nd rfl (.inl rfl)))
      (pss_one (ps_ret (pe_ifExp (pt_cmpR op_le (pe_op op_sub (pv 2) (pv 1)) (pn_int (by rfl) M.c_MOST_NAME) (nomark _)) (pv 2) (pv 1)))))), ?_⟩
    show tSeq _ _ _ [some (S t), some (.int a), none] H
    simp only [L2.tSeq, L2.tRet, L2.tVar, L2.tAnd, L2.tOr, L2.tNot, L2.tTest, L2.tOp, L2.tUn, L2.rU, L2.tCB, L2.tCons, L2.tNil, L2.rIxS, L2.rI0, L2.rI, L2.rEq, L2.rNe, L2.tAug, L2.ipI, L2.tC, L2.tIfS, L2.tIf, L2.tCall, L2.tAsg, L2.gName, L2.tSl, L2.rSlS, L2.tPart, L2.tNoPart, L2.tBM, L2.tBM0, L2.tB, L2.tAndV, L2.tOrV, L2.tNotV, L2.tDrop, L2.tNext, L2.tChain, L2.tPar, Cm.tErr, Cm.tGT, L2.tTup, L2.tLst,
  List.getElem?_cons_zero, List.getElem?_cons_succ, Option.some.injEq, exists_eq_left', exists_eq_left, exists_eq', exists_eq, exists_and_left, exists_and_right, exists_const, List.cons.injEq, and_true, true_and, L2.V.str.injEq, L2.V.int.injEq, L2.V.bl.injEq, L2.V.ref.injEq, PySem.Str.mk.injEq, Tx.arr1, Tx.str_len, Tx.at_nat, Tx.cut_nat, Tx.find_one,
  and_assoc, Int.ofNat_inj, Nat.add_sub_cancel_left, Lx.take1_eq, decide_eq_true_eq, Bool.not_eq_true', decide_eq_false_iff_not, Int.ofNat_lt, Int.ofNat_le, Bool.false_eq_true, if_false, if_true, List.set_cons_zero, List.set_cons_succ, List.append_nil, List.nil_append, ↓reduceIte, Cm.nat_succ, Cm.nat_add, Cm.nat_two, List.toList_toArray, not_true, not_false_iff, Cm.toArr_inj, Cm.two_one, Cm.tyV_str, Cm.scal_ss, Cm.scal_ii, Cm.scal_bb, Cm.cb_K, hz, spRunEnd, ht]
    unfold nameLen at k
    split
    · rename_i e
      rw [List.drop_eq_nil_of_le (by omega)] at k
      exact q_int k (by simp [kLETTERS])
    · rename_i e
      have hlt : a < t.length := by omega
      refine ⟨_, List.getElem?_eq_getElem hlt, ?_⟩
      rw [headD_drop hlt] at k
      split
      · rename_i hx
        rw [if_neg hx] at k
        exact k
      · rename_i hx
        rw [if_pos (Classical.not_not.mp hx)] at k
        split
        · rename_i h2
          rw [if_pos (by omega)] at k
          exact k
        · rename_i h2
          rw [if_neg (by omega)] at k
          exact k
theorem ok_keyword_end (M : Md P w K mg base CB) : Ok P w K mg base 3 "keyword_end" ["text", "at"] (spTA kwLen) := by
  refine mk M.a_keyword_end sc_keyword_end (fun _ _ _ _ _ _ us hl => match us, hl with | [_, _], _ => rfl) (fun vs H Q E h => ?_) (fun f cdv A outer s H vs Q E hr h => ?_)
  · obtain ⟨t, a, rfl, _⟩ := h
    rfl
  · obtain ⟨t, a, rfl, ht, ha, k⟩ := h
    have hz := szl ht
    refine ⟨_, (pss_cons (ps_asg (pc (ok_name_end M) (hr.mono (by decide)) (by rfl) psb (pa_cons (pv 0) (pa_cons (pv 1) pa_nil))) (pg_name (i := 2) sc_keyword_end.nd rfl (.inl rfl)))
      (pss_cons (ps_if (PW.pt (pw_and (pt_cmpR op_gt (pv 2) (pv 1) (nomark _)) (pw_and (pt_cmpR op_eq (pe_slice sl_str (pv 0) (po_some (pv 2)) (po_some (pe_op op_add (pv 2) pe_int))) (pe_strL [58]) (nomark _)) (pw_and1 (pt_cmpR op_ne (pe_slice sl_str (pv 0) (po_some (pe_op op_add (pv 2) pe_int)) (po_some (pe_op op_add (pv 2) pe_int))) (pe_strL [61]) (nomark _)))))) (pss_one (ps_ret (pe_op op_add (pv 2) pe_int))) pss_nil)
      (pss_one (ps_ret (pv 1))))), ?_⟩
    show tSeq _ _ _ [some (S t), some (.int a), none] H
    simp only [L2.tSeq, L2.tRet, L2.tVar, L2.tAnd, L2.tOr, L2.tNot, L2.tTest, L2.tOp, L2.tUn, L2.rU, L2.tCB, L2.tCons, L2.tNil, L2.rIxS, L2.rI0, L2.rI, L2.rEq, L2.rNe, L2.tAug, L2.ipI, L2.tC, L2.tIfS, L2.tIf, L2.tCall, L2.tAsg, L2.gName, L2.tSl, L2.rSlS, L2.tPart, L2.tNoPart, L2.tBM, L2.tBM0, L2.tB, L2.tAndV, L2.tOrV, L2.tNotV, L2.tDrop, L2.tNext, L2.tChain, L2.tPar, Cm.tErr, Cm.tGT, L2.tTup, L2.tLst,
  List.getElem?_cons_zero, List.getElem?_cons_succ, Option.some.injEq, exists_eq_left', exists_eq_left, exists_eq', exists_eq, exists_and_left, exists_and_right, exists_const, List.cons.injEq, and_true, true_and, L2.V.str.injEq, L2.V.int.injEq, L2.V.bl.injEq, L2.V.ref.injEq, PySem.Str.mk.injEq, Tx.arr1, Tx.str_len, Tx.at_nat, Tx.cut_nat, Tx.find_one,
  and_assoc, Int.ofNat_inj, Nat.add_sub_cancel_left, Lx.take1_eq, decide_eq_true_eq, Bool.not_eq_true', decide_eq_false_iff_not, Int.ofNat_lt, Int.ofNat_le, Bool.false_eq_true, if_false, if_true, List.set_cons_zero, List.set_cons_succ, List.append_nil, List.nil_append, ↓reduceIte, Cm.nat_succ, Cm.nat_add, Cm.nat_two, List.toList_toArray, not_true, not_false_iff, Cm.toArr_inj, Cm.two_one, Cm.tyV_str, Cm.scal_ss, Cm.scal_ii, Cm.scal_bb, Cm.cb_K, hz, spTA, ht, ha]
    unfold kwLen at k
    rw [List.getElem?_drop, List.getElem?_drop, ← Nat.add_assoc] at k
    split
    · rename_i h1
      split
      · rename_i h2
        split
        · rename_i h3
          rw [if_pos ⟨by omega, h2, h3⟩] at k
          exact q_int k (by omega)
        · rename_i h3
          rw [if_neg (fun z => h3 z.2.2)] at k
          exact k
      · rename_i h2
        rw [if_neg (fun z => h2 z.2.1)] at k
        exact k
    · rename_i h1
      rw [if_neg (fun z => h1 (by omega))] at k
      exact k
theorem ok_keywords_end (M : Md P w K mg base CB) : Ok P w K mg base 4 "keywords_end" ["text", "at"] (spTA kwsLen) := by
  refine mk M.a_keywords_end sc_keywords_end (fun _ _ _ _ _ _ us hl => match us, hl with | [_, _], _ => rfl) (fun vs H Q E h => ?_) (fun f cdv A outer s H vs Q E hr h => ?_)
  · obtain ⟨t, a, rfl, _⟩ := h
    rfl
  · obtain ⟨t, a, rfl, ht, ha, k⟩ := h
    have hz := szl ht
    refine ⟨_, (pss_cons (ps_asg (pc (ok_keyword_end M) (hr.mono (by decide)) (by rfl) psb (pa_cons (pv 0) (pa_cons (pv 1) pa_nil))) (pg_name (i := 2) sc_keywords_end.nd rfl (.inl rfl)))
      (pss_cons (ps_while (passes_of rfl) (pt_cmpR op_gt (pv 2) (pv 1) (nomark _)) (pss_cons (ps_asg (pv 2) (pg_name (i := 1) sc_keywords_end.nd rfl (.inl rfl)))
      (pss_one (ps_asg (pc (ok_keyword_end M) (hr.mono (by decide)) (by rfl) psb (pa_cons (pv 0) (pa_cons (pv 1) pa_nil))) (pg_name (i := 2) sc_keywords_end.nd rfl (.inl rfl))))))
      (pss_one (ps_ret (pv 1))))), ?_⟩
    show tSeq _ _ _ [some (S t), some (.int a), none] H
    simp only [L2.tSeq, L2.tRet, L2.tVar, L2.tAnd, L2.tOr, L2.tNot, L2.tTest, L2.tOp, L2.tUn, L2.rU, L2.tCB, L2.tCons, L2.tNil, L2.rIxS, L2.rI0, L2.rI, L2.rEq, L2.rNe, L2.tAug, L2.ipI, L2.tC, L2.tIfS, L2.tIf, L2.tCall, L2.tAsg, L2.gName, L2.tSl, L2.rSlS, L2.tPart, L2.tNoPart, L2.tBM, L2.tBM0, L2.tB, L2.tAndV, L2.tOrV, L2.tNotV, L2.tDrop, L2.tNext, L2.tChain, L2.tPar, Cm.tErr, Cm.tGT, L2.tTup, L2.tLst,
  List.getElem?_cons_zero, List.getElem?_cons_succ, Option.some.injEq, exists_eq_left', exists_eq_left, exists_eq', exists_eq, exists_and_left, exists_and_right, exists_const, List.cons.injEq, and_true, true_and, L2.V.str.injEq, L2.V.int.injEq, L2.V.bl.injEq, L2.V.ref.injEq, PySem.Str.mk.injEq, Tx.arr1, Tx.str_len, Tx.at_nat, Tx.cut_nat, Tx.find_one,
  and_assoc, Int.ofNat_inj, Nat.add_sub_cancel_left, Lx.take1_eq, decide_eq_true_eq, Bool.not_eq_true', decide_eq_false_iff_not, Int.ofNat_lt, Int.ofNat_le, Bool.false_eq_true, if_false, if_true, List.set_cons_zero, List.set_cons_succ, List.append_nil, List.nil_append, ↓reduceIte, Cm.nat_succ, Cm.nat_add, Cm.nat_two, List.toList_toArray, not_true, not_false_iff, Cm.toArr_inj, Cm.two_one, Cm.tyV_str, Cm.scal_ss, Cm.scal_ii, Cm.scal_bb, Cm.cb_K, hz, spTA, ht, ha]
    refine ⟨fun m σ H' => ∃ b : Nat, σ = [some (S t), some (.int b), some (.int (b + kwLen (t.drop b) : Nat))] ∧ H' = H ∧ b ≤ t.length ∧ b + kwsLen (t.drop b) = a + kwsLen (t.drop a) ∧ m = t.length - b, ⟨_, a, rfl, rfl, ha, rfl, rfl⟩, ?_⟩
    rintro m σ H' ⟨b, rfl, rfl, hb1, hb, rfl⟩
    have hle := kwLen_le (t.drop b)
    rw [List.length_drop] at hle
    simp only [L2.tSeq, L2.tRet, L2.tVar, L2.tAnd, L2.tOr, L2.tNot, L2.tTest, L2.tOp, L2.tUn, L2.rU, L2.tCB, L2.tCons, L2.tNil, L2.rIxS, L2.rI0, L2.rI, L2.rEq, L2.rNe, L2.tAug, L2.ipI, L2.tC, L2.tIfS, L2.tIf, L2.tCall, L2.tAsg, L2.gName, L2.tSl, L2.rSlS, L2.tPart, L2.tNoPart, L2.tBM, L2.tBM0, L2.tB, L2.tAndV, L2.tOrV, L2.tNotV, L2.tDrop, L2.tNext, L2.tChain, L2.tPar, Cm.tErr, Cm.tGT, L2.tTup, L2.tLst,
  List.getElem?_cons_zero, List.getElem?_cons_succ, Option.some.injEq, exists_eq_left', exists_eq_left, exists_eq', exists_eq, exists_and_left, exists_and_right, exists_const, List.cons.injEq, and_true, true_and, L2.V.str.injEq, L2.V.int.injEq, L2.V.bl.injEq, L2.V.ref.injEq, PySem.Str.mk.injEq, Tx.arr1, Tx.str_len, Tx.at_nat, Tx.cut_nat, Tx.find_one,
  and_assoc, Int.ofNat_inj, Nat.add_sub_cancel_left, Lx.take1_eq, decide_eq_true_eq, Bool.not_eq_true', decide_eq_false_iff_not, Int.ofNat_lt, Int.ofNat_le, Bool.false_eq_true, if_false, if_true, List.set_cons_zero, List.set_cons_succ, List.append_nil, List.nil_append, ↓reduceIte, Cm.nat_succ, Cm.nat_add, Cm.nat_two, List.toList_toArray, not_true, not_false_iff, Cm.toArr_inj, Cm.two_one, Cm.tyV_str, Cm.scal_ss, Cm.scal_ii, Cm.scal_bb, Cm.cb_K, hz, spTA, ht]
    split
    · rename_i h1
      have h1' : 0 < kwLen (t.drop b) := by omega
      refine ⟨_, fun _ _ z => z, by omega, t.length - (b + kwLen (t.drop b)), by omega, b + kwLen (t.drop b), rfl, rfl, by omega, ?_, rfl⟩
      rw [kwsLen_step h1', List.drop_drop] at hb
      omega
    · rename_i h1
      rw [kwsLen_stop (by omega)] at hb
      exact q_int k (by omega)
theorem ok_string_end (M : Md P w K mg base CB) : Ok P w K mg base 1 "string_end" ["text", "at"] spStrEnd := by
  refine mk M.a_string_end sc_string_end (fun _ _ _ _ _ _ us hl => match us, hl with | [_, _], _ => rfl) (fun vs H Q E h => ?_) (fun f cdv A outer s H vs Q E hr h => ?_)
  · obtain ⟨t, a, rfl, _⟩ := h
    rfl
  · obtain ⟨t, a, rfl, ht, ha, k⟩ := h
    have hz := szl ht
    refine ⟨_, (pss_cons (ps_asg (pe_bm PySem.F.plainAttrs_str PySem.F.slot_str_find PySem.F.type_str_find mt_find3 (pv 0) (pa_cons (pe_strL [39]) (pa_cons (pe_op op_add (pv 1) pe_int) pa_nil))) (pg_name (i := 2) sc_string_end.nd rfl (.inl rfl)))
      (pss_cons (ps_while (passes_of rfl) (PW.pt (pw_and (pt_cmpR op_ge (pv 2) pe_int (nomark _)) (pw_and1 (pt_cmpR op_eq (pe_slice sl_str (pv 0) (po_some (pe_op op_add (pv 2) pe_int)) (po_some (pe_op op_add (pv 2) pe_int))) (pe_strL [39]) (nomark _))))) (pss_one (ps_asg (pe_bm PySem.F.plainAttrs_str PySem.F.slot_str_find PySem.F.type_str_find mt_find3 (pv 0) (pa_cons (pe_strL [39]) (pa_cons (pe_op op_add (pv 2) pe_int) pa_nil))) (pg_name (i := 2) sc_string_end.nd rfl (.inl rfl)))))
      (pss_one (ps_ret (pe_ifExp (pt_cmpR op_ge (pv 2) pe_int (nomark _)) (pe_op op_add (pv 2) pe_int) (pe_un un_neg pe_int)))))), ?_⟩
    show tSeq _ (tSeq (tWhile _ _) _) _ [some (S t), some (.int a), none] H
    simp only [L2.tSeq, L2.tRet, L2.tVar, L2.tAnd, L2.tOr, L2.tNot, L2.tTest, L2.tOp, L2.tUn, L2.rU, L2.tCB, L2.tCons, L2.tNil, L2.rIxS, L2.rI0, L2.rI, L2.rEq, L2.rNe, L2.tAug, L2.ipI, L2.tC, L2.tIfS, L2.tIf, L2.tCall, L2.tAsg, L2.gName, L2.tSl, L2.rSlS, L2.tPart, L2.tNoPart, L2.tBM, L2.tBM0, L2.tB, L2.tAndV, L2.tOrV, L2.tNotV, L2.tDrop, L2.tNext, L2.tChain, L2.tPar, Cm.tErr, Cm.tGT, L2.tTup, L2.tLst,
  List.getElem?_cons_zero, List.getElem?_cons_succ, Option.some.injEq, exists_eq_left', exists_eq_left, exists_eq', exists_eq, exists_and_left, exists_and_right, exists_const, List.cons.injEq, and_true, true_and, L2.V.str.injEq, L2.V.int.injEq, L2.V.bl.injEq, L2.V.ref.injEq, PySem.Str.mk.injEq, Tx.arr1, Tx.str_len, Tx.at_nat, Tx.cut_nat, Tx.find_one,
  and_assoc, Int.ofNat_inj, Nat.add_sub_cancel_left, Lx.take1_eq, decide_eq_true_eq, Bool.not_eq_true', decide_eq_false_iff_not, Int.ofNat_lt, Int.ofNat_le, Bool.false_eq_true, if_false, if_true, List.set_cons_zero, List.set_cons_succ, List.append_nil, List.nil_append, ↓reduceIte, Cm.nat_succ, Cm.nat_add, Cm.nat_two, List.toList_toArray, not_true, not_false_iff, Cm.toArr_inj, Cm.two_one, Cm.tyV_str, Cm.scal_ss, Cm.scal_ii, Cm.scal_bb, Cm.cb_K, hz]
    refine ⟨fun m σ H' => ∃ b : Nat, σ = [some (S t), some (.int a), some (.int (fnd t b))] ∧ H' = H ∧ tickAt t b = tickAt t (a + 1) ∧ m = t.length + 2 - b, ⟨_, a + 1, ?_, rfl, rfl, rfl⟩, ?_⟩
    · rfl
    rintro m σ H' ⟨b, rfl, rfl, hb, rfl⟩
    rw [tickAt_find t _ b (Nat.le_refl _)] at hb
    unfold fnd
    cases hf : Tx.findFrom t 39 b with
    | none =>
      rw [hf, ← strLen_at] at hb
      have hn : strLen (t.drop a) = none := by
        cases q : strLen (t.drop a) with
        | none => rfl
        | some n => rw [q] at hb; cases hb
      rw [hn] at k
      simp only [L2.tSeq, L2.tRet, L2.tVar, L2.tAnd, L2.tOr, L2.tNot, L2.tTest, L2.tOp, L2.tUn, L2.rU, L2.tCB, L2.tCons, L2.tNil, L2.rIxS, L2.rI0, L2.rI, L2.rEq, L2.rNe, L2.tAug, L2.ipI, L2.tC, L2.tIfS, L2.tIf, L2.tCall, L2.tAsg, L2.gName, L2.tSl, L2.rSlS, L2.tPart, L2.tNoPart, L2.tBM, L2.tBM0, L2.tB, L2.tAndV, L2.tOrV, L2.tNotV, L2.tDrop, L2.tNext, L2.tChain, L2.tPar, Cm.tErr, Cm.tGT, L2.tTup, L2.tLst,
  List.getElem?_cons_zero, List.getElem?_cons_succ, Option.some.injEq, exists_eq_left', exists_eq_left, exists_eq', exists_eq, exists_and_left, exists_and_right, exists_const, List.cons.injEq, and_true, true_and, L2.V.str.injEq, L2.V.int.injEq, L2.V.bl.injEq, L2.V.ref.injEq, PySem.Str.mk.injEq, Tx.arr1, Tx.str_len, Tx.at_nat, Tx.cut_nat, Tx.find_one,
  and_assoc, Int.ofNat_inj, Nat.add_sub_cancel_left, Lx.take1_eq, decide_eq_true_eq, Bool.not_eq_true', decide_eq_false_iff_not, Int.ofNat_lt, Int.ofNat_le, Bool.false_eq_true, if_false, if_true, List.set_cons_zero, List.set_cons_succ, List.append_nil, List.nil_append, ↓reduceIte, Cm.nat_succ, Cm.nat_add, Cm.nat_two, List.toList_toArray, not_true, not_false_iff, Cm.toArr_inj, Cm.two_one, Cm.tyV_str, Cm.scal_ss, Cm.scal_ii, Cm.scal_bb, Cm.cb_K, hz]
      exact k
    | some e =>
      have hfe := find_some hf
      rw [hf] at hb
      simp only [L2.tSeq, L2.tRet, L2.tVar, L2.tAnd, L2.tOr, L2.tNot, L2.tTest, L2.tOp, L2.tUn, L2.rU, L2.tCB, L2.tCons, L2.tNil, L2.rIxS, L2.rI0, L2.rI, L2.rEq, L2.rNe, L2.tAug, L2.ipI, L2.tC, L2.tIfS, L2.tIf, L2.tCall, L2.tAsg, L2.gName, L2.tSl, L2.rSlS, L2.tPart, L2.tNoPart, L2.tBM, L2.tBM0, L2.tB, L2.tAndV, L2.tOrV, L2.tNotV, L2.tDrop, L2.tNext, L2.tChain, L2.tPar, Cm.tErr, Cm.tGT, L2.tTup, L2.tLst,
  List.getElem?_cons_zero, List.getElem?_cons_succ, Option.some.injEq, exists_eq_left', exists_eq_left, exists_eq', exists_eq, exists_and_left, exists_and_right, exists_const, List.cons.injEq, and_true, true_and, L2.V.str.injEq, L2.V.int.injEq, L2.V.bl.injEq, L2.V.ref.injEq, PySem.Str.mk.injEq, Tx.arr1, Tx.str_len, Tx.at_nat, Tx.cut_nat, Tx.find_one,
  and_assoc, Int.ofNat_inj, Nat.add_sub_cancel_left, Lx.take1_eq, decide_eq_true_eq, Bool.not_eq_true', decide_eq_false_iff_not, Int.ofNat_lt, Int.ofNat_le, Bool.false_eq_true, if_false, if_true, List.set_cons_zero, List.set_cons_succ, List.append_nil, List.nil_append, ↓reduceIte, Cm.nat_succ, Cm.nat_add, Cm.nat_two, List.toList_toArray, not_true, not_false_iff, Cm.toArr_inj, Cm.two_one, Cm.tyV_str, Cm.scal_ss, Cm.scal_ii, Cm.scal_bb, Cm.cb_K, hz]
      rw [if_pos (by omega)]
      split
      · rename_i h2
        refine ⟨_, fun _ _ z => z, t.length + 2 - (e + 2), by omega, e + 2, rfl, rfl, ?_, rfl⟩
        rw [← hb]
        exact (if_pos h2).symm
      · rename_i h2
        have hb2 : some (e + 1) = tickAt t (a + 1) := by
          rw [← hb]
          exact (if_neg h2).symm
        rw [← strLen_at] at hb2
        obtain ⟨n, hn, he⟩ := Option.map_eq_some_iff.mp hb2.symm
        rw [hn] at k
        exact q_int k (by show ((a + n : Nat) : Int) = _; omega)
theorem ok_first_of (M : Md P w K mg base CB) : Ok P w K mg base 1 "first_of" ["choices", "text", "at"] (spFirst K) := by
  refine mk M.a_first_of sc_first_of (fun _ _ _ _ _ _ us hl => match us, hl with | [_, _, _], _ => rfl) (fun vs H Q E h => ?_) (fun f cdv A outer s H vs Q E hr h => ?_)
  · obtain ⟨c, cs, t, a, rfl, _⟩ := h
    rfl
  · obtain ⟨c, cs, t, a, rfl, hc, ht, ha, k⟩ := h
    have hz := szl ht
    refine ⟨_, (pss_cons (ps_for (passes_of rfl) rfl (pi_tup (pv 0)) (pg_name (i := 3) sc_first_of.nd rfl (.inl rfl))
      (pss_one (ps_if (pt_val (pe_bm PySem.F.plainAttrs_str PySem.F.slot_str_startswith PySem.F.type_str_startswith mt_startswith3 (pv 1) (pa_cons (pv 3) (pa_cons (pv 2) pa_nil)))) (pss_one (ps_ret (pv 3))) pss_nil)))
      (pss_one (ps_ret (pe_strL [])))), ?_⟩
    show tSeq _ _ _ [some (.ref c), some (S t), some (.int a), none] H
    refine ⟨_, rfl, c, rfl, ⟨_, hc⟩, for_tup (K := K) (a := c) (xs := cs.map S) (fun i σ H' => ∃ v, σ = [some (.ref c), some (S t), some (.int a), v] ∧ H' = H ∧ firstOf (cs.drop i) (t.drop a) = firstOf cs (t.drop a)) ⟨none, rfl, rfl, rfl⟩ ?_ ?_ ?_⟩
    · rintro i σ H' _ ⟨v, _, rfl, _⟩
      exact hc
    · rintro i x σ H' hx ⟨v, rfl, rfl, hf⟩
      rw [List.getElem?_map] at hx
      obtain ⟨wd, hw, rfl⟩ := Option.map_eq_some_iff.mp hx
      obtain ⟨hi, hwi⟩ := List.getElem?_eq_some_iff.mp hw
      rw [List.drop_eq_getElem_cons hi, hwi] at hf
      simp only [L2.tSeq, L2.tRet, L2.tVar, L2.tAnd, L2.tOr, L2.tNot, L2.tTest, L2.tOp, L2.tUn, L2.rU, L2.tCB, L2.tCons, L2.tNil, L2.rIxS, L2.rI0, L2.rI, L2.rEq, L2.rNe, L2.tAug, L2.ipI, L2.tC, L2.tIfS, L2.tIf, L2.tCall, L2.tAsg, L2.gName, L2.tSl, L2.rSlS, L2.tPart, L2.tNoPart, L2.tBM, L2.tBM0, L2.tB, L2.tAndV, L2.tOrV, L2.tNotV, L2.tDrop, L2.tNext, L2.tChain, L2.tPar, Cm.tErr, Cm.tGT, L2.tTup, L2.tLst,
  List.getElem?_cons_zero, List.getElem?_cons_succ, Option.some.injEq, exists_eq_left', exists_eq_left, exists_eq', exists_eq, exists_and_left, exists_and_right, exists_const, List.cons.injEq, and_true, true_and, L2.V.str.injEq, L2.V.int.injEq, L2.V.bl.injEq, L2.V.ref.injEq, PySem.Str.mk.injEq, Tx.arr1, Tx.str_len, Tx.at_nat, Tx.cut_nat, Tx.find_one,
  and_assoc, Int.ofNat_inj, Nat.add_sub_cancel_left, Lx.take1_eq, decide_eq_true_eq, Bool.not_eq_true', decide_eq_false_iff_not, Int.ofNat_lt, Int.ofNat_le, Bool.false_eq_true, if_false, if_true, List.set_cons_zero, List.set_cons_succ, List.append_nil, List.nil_append, ↓reduceIte, Cm.nat_succ, Cm.nat_add, Cm.nat_two, List.toList_toArray, not_true, not_false_iff, Cm.toArr_inj, Cm.two_one, Cm.tyV_str, Cm.scal_ss, Cm.scal_ii, Cm.scal_bb, Cm.cb_K, hz]
      rw [Tx.sw_nat _ _ _ ha]
      unfold firstOf at hf
      rw [List.find?_cons] at hf
      split
      · rename_i hp
        rw [hp] at hf
        unfold firstOf at k
        rw [← hf] at k
        exact k
      · rename_i hp
        have hp' : wd.isPrefixOf (t.drop a) = false := Bool.eq_false_iff.mpr hp
        rw [hp'] at hf
        exact hf
    · rintro σ H' ⟨v, rfl, rfl, hf⟩
      simp only [L2.tSeq, L2.tRet, L2.tVar, L2.tAnd, L2.tOr, L2.tNot, L2.tTest, L2.tOp, L2.tUn, L2.rU, L2.tCB, L2.tCons, L2.tNil, L2.rIxS, L2.rI0, L2.rI, L2.rEq, L2.rNe, L2.tAug, L2.ipI, L2.tC, L2.tIfS, L2.tIf, L2.tCall, L2.tAsg, L2.gName, L2.tSl, L2.rSlS, L2.tPart, L2.tNoPart, L2.tBM, L2.tBM0, L2.tB, L2.tAndV, L2.tOrV, L2.tNotV, L2.tDrop, L2.tNext, L2.tChain, L2.tPar, Cm.tErr, Cm.tGT, L2.tTup, L2.tLst,
  List.getElem?_cons_zero, List.getElem?_cons_succ, Option.some.injEq, exists_eq_left', exists_eq_left, exists_eq', exists_eq, exists_and_left, exists_and_right, exists_const, List.cons.injEq, and_true, true_and, L2.V.str.injEq, L2.V.int.injEq, L2.V.bl.injEq, L2.V.ref.injEq, PySem.Str.mk.injEq, Tx.arr1, Tx.str_len, Tx.at_nat, Tx.cut_nat, Tx.find_one,
  and_assoc, Int.ofNat_inj, Nat.add_sub_cancel_left, Lx.take1_eq, decide_eq_true_eq, Bool.not_eq_true', decide_eq_false_iff_not, Int.ofNat_lt, Int.ofNat_le, Bool.false_eq_true, if_false, if_true, List.set_cons_zero, List.set_cons_succ, List.append_nil, List.nil_append, ↓reduceIte, Cm.nat_succ, Cm.nat_add, Cm.nat_two, List.toList_toArray, not_true, not_false_iff, Cm.toArr_inj, Cm.two_one, Cm.tyV_str, Cm.scal_ss, Cm.scal_ii, Cm.scal_bb, Cm.cb_K, hz]
      rw [List.length_map, List.drop_eq_nil_of_le (Nat.le_refl _)] at hf
      rw [← hf] at k
      exact k
theorem ok_integer_end (M : Md P w K mg base CB) : Ok P w K mg base 2 "integer_end" ["text", "at", "negative"] spIntEnd := by
  refine mk M.a_integer_end sc_integer_end (fun _ _ _ _ _ _ us hl => match us, hl with | [_, _, _], _ => rfl) (fun vs H Q E h => ?_) (fun f cdv A outer s H vs Q E hr h => ?_)
  · obtain ⟨t, a, neg, rfl, _⟩ := h
    rfl
  · obtain ⟨t, a, neg, rfl, ht, ha, k⟩ := h
    have hz := szl ht
    refine ⟨_, (pss_cons (ps_asg (pe_ifExp (PW.pt (pw_and (pt_val (pv 2)) (pw_and1 (pt_cmpR op_eq (pe_ix ix_str (pv 0) (pv 1) (fun _ _ => rfl)) (pe_strL [45]) (nomark _))))) (pe_op op_add (pv 1) pe_int) (pv 1)) (pg_name (i := 3) sc_integer_end.nd rfl (.inl rfl)))
      (pss_cons (ps_asg (pc (ok_run_end M) (hr.mono (by decide)) (by rfl) psb (pa_cons (pv 0) (pa_cons (pv 3) (pa_cons (pn_str (by rfl) M.c_DIGITS) pa_nil)))) (pg_name (i := 4) sc_integer_end.nd rfl (.inl rfl)))
      (pss_one (ps_ret (pe_ifExp (pt_chain op_le op_le pe_int (pe_op op_sub (pv 4) (pv 3)) (pn_int (by rfl) M.c_MOST_DIGITS)) (pv 4) (pv 1)))))), ?_⟩
    show tSeq _ _ _ [some (S t), some (.int a), some (.bl neg), none, none] H
    simp only [L2.tSeq, L2.tRet, L2.tVar, L2.tAnd, L2.tOr, L2.tNot, L2.tTest, L2.tOp, L2.tUn, L2.rU, L2.tCB, L2.tCons, L2.tNil, L2.rIxS, L2.rI0, L2.rI, L2.rEq, L2.rNe, L2.tAug, L2.ipI, L2.tC, L2.tIfS, L2.tIf, L2.tCall, L2.tAsg, L2.gName, L2.tSl, L2.rSlS, L2.tPart, L2.tNoPart, L2.tBM, L2.tBM0, L2.tB, L2.tAndV, L2.tOrV, L2.tNotV, L2.tDrop, L2.tNext, L2.tChain, L2.tPar, Cm.tErr, Cm.tGT, L2.tTup, L2.tLst,
  List.getElem?_cons_zero, List.getElem?_cons_succ, Option.some.injEq, exists_eq_left', exists_eq_left, exists_eq', exists_eq, exists_and_left, exists_and_right, exists_const, List.cons.injEq, and_true, true_and, L2.V.str.injEq, L2.V.int.injEq, L2.V.bl.injEq, L2.V.ref.injEq, PySem.Str.mk.injEq, Tx.arr1, Tx.str_len, Tx.at_nat, Tx.cut_nat, Tx.find_one,
  and_assoc, Int.ofNat_inj, Nat.add_sub_cancel_left, Lx.take1_eq, decide_eq_true_eq, Bool.not_eq_true', decide_eq_false_iff_not, Int.ofNat_lt, Int.ofNat_le, Bool.false_eq_true, if_false, if_true, List.set_cons_zero, List.set_cons_succ, List.append_nil, List.nil_append, ↓reduceIte, Cm.nat_succ, Cm.nat_add, Cm.nat_two, List.toList_toArray, not_true, not_false_iff, Cm.toArr_inj, Cm.two_one, Cm.tyV_str, Cm.scal_ss, Cm.scal_ii, Cm.scal_bb, Cm.cb_K, hz, ht, spRunEnd]
    unfold intLen at k
    rw [headD_drop ha] at k
    dsimp only at k
    have fin : ∀ b : Nat, Q (.int (a + (if 1 ≤ runLen kDIGITS (List.drop b (List.drop a t)) ∧ runLen kDIGITS (List.drop b (List.drop a t)) ≤ 60 then b + runLen kDIGITS (List.drop b (List.drop a t)) else 0) : Nat)) H →
        if 1 ≤ ((a + b + runLen kDIGITS (List.drop (a + b) t) : Nat) : Int) - ((a + b : Nat) : Int) then (if ((a + b + runLen kDIGITS (List.drop (a + b) t) : Nat) : Int) - ((a + b : Nat) : Int) ≤ 60 then Q (.int (a + b + runLen kDIGITS (List.drop (a + b) t) : Nat)) H else Q (.int (a : Nat)) H) else Q (.int (a : Nat)) H := fun b k => by
      rw [List.drop_drop] at k
      split
      · split
        · rw [if_pos (by omega)] at k
          exact q_int k (by omega)
        · rw [if_neg (by omega)] at k
          exact k
      · rw [if_neg (by omega)] at k
        exact k
    split
    · rename_i hn
      refine ⟨_, List.getElem?_eq_getElem ha, ?_⟩
      split
      · rename_i hx
        have e : (if neg = true ∧ t[a] = 45 then 1 else 0) = 1 := if_pos ⟨hn, hx⟩
        rw [e] at k
        exact fin 1 k
      · rename_i hx
        have e : (if neg = true ∧ t[a] = 45 then 1 else 0) = 0 := if_neg (fun z => hx z.2)
        rw [e] at k
        exact fin 0 k
    · rename_i hn
      have e : (if neg = true ∧ t[a] = 45 then 1 else 0) = 0 := if_neg (fun z => hn z.1)
      rw [e] at k
      exact fin 0 k
theorem ok_comment_end (M : Md P w K mg base CB) : Ok P w K mg base 3 "comment_end" ["text", "at"] (spComment CB) := by
  refine mk M.a_comment_end sc_comment_end (fun _ _ _ _ _ _ us hl => match us, hl with | [_, _], _ => rfl) (fun vs H Q E h => ?_) (fun f cdv A outer s H vs Q E hr h => ?_)
  · obtain ⟨t, a, rfl, _⟩ := h
    rfl
  · obtain ⟨t, a, rfl, ht, ha, k⟩ := h
    have hz := szl ht
    refine ⟨_, (pss_cons (ps_asg (pe_bm PySem.F.plainAttrs_str PySem.F.slot_str_find PySem.F.type_str_find mt_find3 (pv 0) (pa_cons (pe_strL [34]) (pa_cons (pe_op op_add (pv 1) pe_int) pa_nil))) (pg_name (i := 2) sc_comment_end.nd rfl (.inl rfl)))
      (pss_cons (ps_if (pt_cmpR op_lt (pv 2) pe_int (nomark _)) (pss_one (ps_raise rfl tkb (pmk1 M.x_BadSource hr (by rfl) (pv 1)))) pss_nil)
      (pss_one (ps_ret (pe_op op_add (pv 2) pe_int))))), ?_⟩
    show tSeq _ _ _ [some (S t), some (.int a), none] H
    simp only [L2.tSeq, L2.tRet, L2.tVar, L2.tAnd, L2.tOr, L2.tNot, L2.tTest, L2.tOp, L2.tUn, L2.rU, L2.tCB, L2.tCons, L2.tNil, L2.rIxS, L2.rI0, L2.rI, L2.rEq, L2.rNe, L2.tAug, L2.ipI, L2.tC, L2.tIfS, L2.tIf, L2.tCall, L2.tAsg, L2.gName, L2.tSl, L2.rSlS, L2.tPart, L2.tNoPart, L2.tBM, L2.tBM0, L2.tB, L2.tAndV, L2.tOrV, L2.tNotV, L2.tDrop, L2.tNext, L2.tChain, L2.tPar, Cm.tErr, Cm.tGT, L2.tTup, L2.tLst,
  List.getElem?_cons_zero, List.getElem?_cons_succ, Option.some.injEq, exists_eq_left', exists_eq_left, exists_eq', exists_eq, exists_and_left, exists_and_right, exists_const, List.cons.injEq, and_true, true_and, L2.V.str.injEq, L2.V.int.injEq, L2.V.bl.injEq, L2.V.ref.injEq, PySem.Str.mk.injEq, Tx.arr1, Tx.str_len, Tx.at_nat, Tx.cut_nat, Tx.find_one,
  and_assoc, Int.ofNat_inj, Nat.add_sub_cancel_left, Lx.take1_eq, decide_eq_true_eq, Bool.not_eq_true', decide_eq_false_iff_not, Int.ofNat_lt, Int.ofNat_le, Bool.false_eq_true, if_false, if_true, List.set_cons_zero, List.set_cons_succ, List.append_nil, List.nil_append, ↓reduceIte, Cm.nat_succ, Cm.nat_add, Cm.nat_two, List.toList_toArray, not_true, not_false_iff, Cm.toArr_inj, Cm.two_one, Cm.tyV_str, Cm.scal_ss, Cm.scal_ii, Cm.scal_bb, Cm.cb_K, hz, ht]
    unfold commentLen at k
    rw [List.drop_drop] at k
    unfold Tx.findFrom
    cases hf : List.findIdx? (fun x => x == 34) (List.drop (a + 1) t) with
    | none =>
      rw [hf] at k
      simp only [Option.map_none]
      rw [if_pos (by decide)]
      exact fun d hd => k d _ (same_new hd) hd upd_same
    | some n =>
      rw [hf] at k
      have k' : Q (.int (a + (n + 2) : Nat)) H := k
      show if ((n + (a + 1) : Nat) : Int) < 0 then _ else Q (.int (((n + (a + 1) : Nat) : Int) + 1)) H
      rw [if_neg (by omega)]
      exact q_int k' (by omega)
theorem ok_sign_word (M : Md P w K mg base CB) : Ok P w K mg base 3 "sign_word" ["text", "at"] (spWord CB signWord) := by
  refine mk M.a_sign_word sc_sign_word (fun _ _ _ _ _ _ us hl => match us, hl with | [_, _], _ => rfl) (fun vs H Q E h => ?_) (fun f cdv A outer s H vs Q E hr h => ?_)
  · obtain ⟨t, a, rfl, _⟩ := h
    rfl
  · obtain ⟨t, a, rfl, ht, ha, k⟩ := h
    have hz := szl ht
    have ha' := Nat.le_of_lt ha
    refine ⟨_, (pss_cons (ps_asg (pc (ok_first_of M) (hr.mono (by decide)) (by rfl) psb (pa_cons (pn_tup (by rfl) M.c_OPERATORS_FIRST) (pa_cons (pv 0) (pa_cons (pv 1) pa_nil)))) (pg_name (i := 2) sc_sign_word.nd rfl (.inl rfl)))
      (pss_cons (ps_if (pt_cmpR op_ne (pv 2) (pe_strL []) (nomark _)) (pss_one (ps_ret (pe_tup (pa_cons (pe_strL [111, 112]) (pa_cons (pv 2) (pa_cons (pe_op op_add (pv 1) (pe_callB call_len_str (by rfl) M.g_len PySem.boot_len (pa_cons (pv 2) pa_nil))) pa_nil)))))) pss_nil)
      (pss_cons (ps_asg (pc (ok_first_of M) (hr.mono (by decide)) (by rfl) psb (pa_cons (pn_tup (by rfl) M.c_SIGNS_FIRST) (pa_cons (pv 0) (pa_cons (pv 1) pa_nil)))) (pg_name (i := 2) sc_sign_word.nd rfl (.inl rfl)))
      (pss_cons (ps_if (pt_cmpR op_eq (pv 2) (pe_strL []) (nomark _)) (pss_one (ps_raise rfl tkb (pmk1 M.x_BadSource hr (by rfl) (pv 1)))) pss_nil)
      (pss_one (ps_ret (pe_tup (pa_cons (pe_strL [115, 105, 103, 110]) (pa_cons (pv 2) (pa_cons (pe_op op_add (pv 1) (pe_callB call_len_str (by rfl) M.g_len PySem.boot_len (pa_cons (pv 2) pa_nil))) pa_nil)))))))))), ?_⟩
    show tSeq _ _ _ [some (S t), some (.int a), none] H
    simp only [L2.tSeq, L2.tRet, L2.tVar, L2.tAnd, L2.tOr, L2.tNot, L2.tTest, L2.tOp, L2.tUn, L2.rU, L2.tCB, L2.tCons, L2.tNil, L2.rIxS, L2.rI0, L2.rI, L2.rEq, L2.rNe, L2.tAug, L2.ipI, L2.tC, L2.tIfS, L2.tIf, L2.tCall, L2.tAsg, L2.gName, L2.tSl, L2.rSlS, L2.tPart, L2.tNoPart, L2.tBM, L2.tBM0, L2.tB, L2.tAndV, L2.tOrV, L2.tNotV, L2.tDrop, L2.tNext, L2.tChain, L2.tPar, Cm.tErr, Cm.tGT, L2.tTup, L2.tLst,
  List.getElem?_cons_zero, List.getElem?_cons_succ, Option.some.injEq, exists_eq_left', exists_eq_left, exists_eq', exists_eq, exists_and_left, exists_and_right, exists_const, List.cons.injEq, and_true, true_and, L2.V.str.injEq, L2.V.int.injEq, L2.V.bl.injEq, L2.V.ref.injEq, PySem.Str.mk.injEq, Tx.arr1, Tx.str_len, Tx.at_nat, Tx.cut_nat, Tx.find_one,
  and_assoc, Int.ofNat_inj, Nat.add_sub_cancel_left, Lx.take1_eq, decide_eq_true_eq, Bool.not_eq_true', decide_eq_false_iff_not, Int.ofNat_lt, Int.ofNat_le, Bool.false_eq_true, if_false, if_true, List.set_cons_zero, List.set_cons_succ, List.append_nil, List.nil_append, ↓reduceIte, Cm.nat_succ, Cm.nat_add, Cm.nat_two, List.toList_toArray, not_true, not_false_iff, Cm.toArr_inj, Cm.two_one, Cm.tyV_str, Cm.scal_ss, Cm.scal_ii, Cm.scal_bb, Cm.cb_K, hz, ht, spFirst]
    intro c1 hc1
    refine ⟨kOPERATORS_FIRST, hc1 H, ha', ?_⟩
    have h1 := firstOf_le kOPERATORS_FIRST (t.drop a)
    have h2 := firstOf_le kSIGNS_FIRST (t.drop a)
    rw [List.length_drop] at h1 h2
    unfold signWord at k
    split
    · rename_i hx
      rw [if_neg hx] at k
      exact ⟨by omega, by show 3 ≤ sizeLine; decide, fun p hp => k p _ (same_new hp) hp upd_same⟩
    · rename_i hx
      rw [if_pos (Classical.not_not.mp hx)] at k
      intro c2 hc2
      refine ⟨kSIGNS_FIRST, hc2 H, ha', ?_⟩
      split
      · rename_i hy
        rw [if_pos hy] at k
        exact fun d hd => k d _ (same_new hd) hd upd_same
      · rename_i hy
        rw [if_neg hy] at k
        exact ⟨by omega, by show 3 ≤ sizeLine; decide, fun p hp => k p _ (same_new hp) hp upd_same⟩
theorem ok_name_word (M : Md P w K mg base CB) : Ok P w K mg base 4 "name_word" ["text", "at"] (spWord CB nameWord) := by
  refine mk M.a_name_word sc_name_word (fun _ _ _ _ _ _ us hl => match us, hl with | [_, _], _ => rfl) (fun vs H Q E h => ?_) (fun f cdv A outer s H vs Q E hr h => ?_)
  · obtain ⟨t, a, rfl, _⟩ := h
    rfl
  · obtain ⟨t, a, rfl, ht, ha, k⟩ := h
    have hz := szl ht
    have ha' := Nat.le_of_lt ha
    refine ⟨_, (pss_cons (ps_asg (pc (ok_keyword_end M) (hr.mono (by decide)) (by rfl) psb (pa_cons (pv 0) (pa_cons (pv 1) pa_nil))) (pg_name (i := 2) sc_name_word.nd rfl (.inl rfl)))
      (pss_cons (ps_if (pt_cmpR op_gt (pv 2) (pv 1) (nomark _)) (pss_one (ps_ret (pe_tup (pa_cons (pe_strL [107, 101, 121, 119, 111, 114, 100]) (pa_cons (pe_slice sl_str (pv 0) (po_some (pv 1)) (po_some (pv 2))) (pa_cons (pv 2) pa_nil)))))) pss_nil)
      (pss_cons (ps_asg (pc (ok_name_end M) (hr.mono (by decide)) (by rfl) psb (pa_cons (pv 0) (pa_cons (pv 1) pa_nil))) (pg_name (i := 2) sc_name_word.nd rfl (.inl rfl)))
      (pss_cons (ps_if (pt_cmpR op_eq (pv 2) (pv 1) (nomark _)) (pss_one (ps_raise rfl tkb (pmk1 M.x_BadSource hr (by rfl) (pv 1)))) pss_nil)
      (pss_one (ps_ret (pe_tup (pa_cons (pe_strL [110, 97, 109, 101]) (pa_cons (pe_slice sl_str (pv 0) (po_some (pv 1)) (po_some (pv 2))) (pa_cons (pv 2) pa_nil)))))))))), ?_⟩
    show tSeq _ _ _ [some (S t), some (.int a), none] H
    simp only [L2.tSeq, L2.tRet, L2.tVar, L2.tAnd, L2.tOr, L2.tNot, L2.tTest, L2.tOp, L2.tUn, L2.rU, L2.tCB, L2.tCons, L2.tNil, L2.rIxS, L2.rI0, L2.rI, L2.rEq, L2.rNe, L2.tAug, L2.ipI, L2.tC, L2.tIfS, L2.tIf, L2.tCall, L2.tAsg, L2.gName, L2.tSl, L2.rSlS, L2.tPart, L2.tNoPart, L2.tBM, L2.tBM0, L2.tB, L2.tAndV, L2.tOrV, L2.tNotV, L2.tDrop, L2.tNext, L2.tChain, L2.tPar, Cm.tErr, Cm.tGT, L2.tTup, L2.tLst,
  List.getElem?_cons_zero, List.getElem?_cons_succ, Option.some.injEq, exists_eq_left', exists_eq_left, exists_eq', exists_eq, exists_and_left, exists_and_right, exists_const, List.cons.injEq, and_true, true_and, L2.V.str.injEq, L2.V.int.injEq, L2.V.bl.injEq, L2.V.ref.injEq, PySem.Str.mk.injEq, Tx.arr1, Tx.str_len, Tx.at_nat, Tx.cut_nat, Tx.find_one,
  and_assoc, Int.ofNat_inj, Nat.add_sub_cancel_left, Lx.take1_eq, decide_eq_true_eq, Bool.not_eq_true', decide_eq_false_iff_not, Int.ofNat_lt, Int.ofNat_le, Bool.false_eq_true, if_false, if_true, List.set_cons_zero, List.set_cons_succ, List.append_nil, List.nil_append, ↓reduceIte, Cm.nat_succ, Cm.nat_add, Cm.nat_two, List.toList_toArray, not_true, not_false_iff, Cm.toArr_inj, Cm.two_one, Cm.tyV_str, Cm.scal_ss, Cm.scal_ii, Cm.scal_bb, Cm.cb_K, hz, ht, spTA, ha']
    unfold nameWord at k
    split
    · rename_i hx
      rw [if_pos (by omega)] at k
      exact ⟨by show 3 ≤ sizeLine; decide, fun p hp => k p _ (same_new hp) hp upd_same⟩
    · rename_i hx
      rw [if_neg (by omega)] at k
      split
      · rename_i hy
        rw [if_pos (by omega)] at k
        exact fun d hd => k d _ (same_new hd) hd upd_same
      · rename_i hy
        rw [if_neg (by omega)] at k
        exact ⟨by show 3 ≤ sizeLine; decide, fun p hp => k p _ (same_new hp) hp upd_same⟩
theorem ok_symbol_end (M : Md P w K mg base CB) : Ok P w K mg base 5 "symbol_end" ["text", "at"] spSymEnd := by
  refine mk M.a_symbol_end sc_symbol_end (fun _ _ _ _ _ _ us hl => match us, hl with | [_, _], _ => rfl) (fun vs H Q E h => ?_) (fun f cdv A outer s H vs Q E hr h => ?_)
  · obtain ⟨t, a, rfl, _⟩ := h
    rfl
  · obtain ⟨t, a, rfl, ht, ha, k⟩ := h
    have hz := szl ht
    have ha' : a + 1 ≤ t.length := ha
    refine ⟨_, (pss_cons (ps_asg (pe_op op_add (pv 1) pe_int) (pg_name (i := 2) sc_symbol_end.nd rfl (.inl rfl)))
      (pss_cons (ps_if (pt_cmpR op_eq (pe_slice sl_str (pv 0) (po_some (pv 2)) (po_some (pe_op op_add (pv 2) pe_int))) (pe_strL [39]) (nomark _)) (pss_one (ps_ret (pc (ok_string_end M) (hr.mono (by decide)) (by rfl) psb (pa_cons (pv 0) (pa_cons (pv 2) pa_nil))))) pss_nil)
      (pss_cons (ps_asg (pe_callB (call_max2 rfl) (by rfl) M.g_max (by decide +kernel) (pa_cons (pc (ok_keywords_end M) (hr.mono (by decide)) (by rfl) psb (pa_cons (pv 0) (pa_cons (pv 2) pa_nil))) (pa_cons (pc (ok_name_end M) (hr.mono (by decide)) (by rfl) psb (pa_cons (pv 0) (pa_cons (pv 2) pa_nil))) pa_nil))) (pg_name (i := 3) sc_symbol_end.nd rfl (.inl rfl)))
      (pss_cons (ps_if (pt_cmpR op_eq (pv 3) (pv 2) (nomark _)) (pss_one (ps_asg (pe_op op_add (pv 2) (pe_callB call_len_str (by rfl) M.g_len PySem.boot_len (pa_cons (pc (ok_first_of M) (hr.mono (by decide)) (by rfl) psb (pa_cons (pn_tup (by rfl) M.c_OPERATORS_FIRST) (pa_cons (pv 0) (pa_cons (pv 2) pa_nil)))) pa_nil))) (pg_name (i := 3) sc_symbol_end.nd rfl (.inl rfl)))) pss_nil)
      (pss_one (ps_ret (pe_ifExp (pt_cmpR op_gt (pv 3) (pv 2) (nomark _)) (pv 3) (pv 1)))))))), ?_⟩
    show tSeq _ _ _ [some (S t), some (.int a), none, none] H
    simp only [L2.tSeq, L2.tRet, L2.tVar, L2.tAnd, L2.tOr, L2.tNot, L2.tTest, L2.tOp, L2.tUn, L2.rU, L2.tCB, L2.tCons, L2.tNil, L2.rIxS, L2.rI0, L2.rI, L2.rEq, L2.rNe, L2.tAug, L2.ipI, L2.tC, L2.tIfS, L2.tIf, L2.tCall, L2.tAsg, L2.gName, L2.tSl, L2.rSlS, L2.tPart, L2.tNoPart, L2.tBM, L2.tBM0, L2.tB, L2.tAndV, L2.tOrV, L2.tNotV, L2.tDrop, L2.tNext, L2.tChain, L2.tPar, Cm.tErr, Cm.tGT, L2.tTup, L2.tLst,
  List.getElem?_cons_zero, List.getElem?_cons_succ, Option.some.injEq, exists_eq_left', exists_eq_left, exists_eq', exists_eq, exists_and_left, exists_and_right, exists_const, List.cons.injEq, and_true, true_and, L2.V.str.injEq, L2.V.int.injEq, L2.V.bl.injEq, L2.V.ref.injEq, PySem.Str.mk.injEq, Tx.arr1, Tx.str_len, Tx.at_nat, Tx.cut_nat, Tx.find_one,
  and_assoc, Int.ofNat_inj, Nat.add_sub_cancel_left, Lx.take1_eq, decide_eq_true_eq, Bool.not_eq_true', decide_eq_false_iff_not, Int.ofNat_lt, Int.ofNat_le, Bool.false_eq_true, if_false, if_true, List.set_cons_zero, List.set_cons_succ, List.append_nil, List.nil_append, ↓reduceIte, Cm.nat_succ, Cm.nat_add, Cm.nat_two, List.toList_toArray, not_true, not_false_iff, Cm.toArr_inj, Cm.two_one, Cm.tyV_str, Cm.scal_ss, Cm.scal_ii, Cm.scal_bb, Cm.cb_K, hz, ht, spTA, ha', spStrEnd, spFirst]
    unfold symLen at k
    rw [List.getElem?_drop, List.drop_drop] at k
    split
    · rename_i hx
      rw [if_pos hx] at k
      cases q : strLen (t.drop (a + 1)) with
      | none =>
        rw [q] at k
        exact k
      | some n =>
        rw [q] at k
        exact q_int k (by show ((a + (n + 1) : Nat) : Int) = ((a + 1 + n : Nat) : Int); omega)
    · rename_i hx
      rw [if_neg hx] at k
      have h1 := firstOf_le kOPERATORS_FIRST (t.drop (a + 1))
      rw [List.length_drop] at h1
      generalize kwsLen (t.drop (a + 1)) = x at k ⊢
      generalize nameLen (t.drop (a + 1)) = y at k ⊢
      dsimp only at k
      have ez : (if a + 1 + x < a + 1 + y then ((a + 1 + y : Nat) : Int) else ((a + 1 + x : Nat) : Int)) = ((a + 1 + (if x < y then y else x) : Nat) : Int) := by
        by_cases hxy : x < y
        · rw [if_pos hxy, if_pos (by omega)]
        · rw [if_neg hxy, if_neg (by omega)]
      simp only [ez]
      generalize (if x < y then y else x) = n at k ⊢
      split
      · rename_i he
        intro c1 hc1
        refine ⟨kOPERATORS_FIRST, hc1 H, by omega, ?_⟩
        have hn : n = 0 := by omega
        subst hn
        rw [if_pos rfl] at k
        split
        · rw [if_pos (by omega)] at k
          exact q_int k (by show ((a + (_ + 1) : Nat) : Int) = _; omega)
        · rw [if_neg (by omega)] at k
          exact k
      · rename_i he
        have e0 : (if n = 0 then (firstOf kOPERATORS_FIRST (t.drop (a + 1))).length else n) = n := if_neg (by omega)
        rw [e0] at k
        split
        · rw [if_pos (by omega)] at k
          exact q_int k (by show ((a + (n + 1) : Nat) : Int) = _; omega)
        · rw [if_neg (by omega)] at k
          exact k
theorem ok_string_of (M : Md P w K mg base CB) : Ok P w K mg base 1 "string_of" ["text"] spStrOf := by
  refine mkT M.a_string_of sc_string_of (by decide +kernel) (by decide) (fun _ _ _ _ _ _ us hl => match us, hl with | [_], _ => rfl) (fun vs H Q E h => ?_) (fun f cdv A outer s H vs Q E hr h => ?_)
  · obtain ⟨t, rfl, _⟩ := h
    rfl
  · obtain ⟨t, rfl, ht, k⟩ := h
    have hz := szl ht
    refine ⟨_, CwR.psst_one (CwR.pst_ret (CwR.pet_replC (y := ⟨#[39, 39]⟩) (z := ⟨#[39]⟩) (pe_slice sl_str (pv 0) (po_some pe_int) (po_some (pe_un un_neg pe_int))) (by decide +kernel))), ?_⟩
    show tRet _ _ [some (S t)] H
    simp only [L2.tSeq, L2.tRet, L2.tVar, L2.tAnd, L2.tOr, L2.tNot, L2.tTest, L2.tOp, L2.tUn, L2.rU, L2.tCB, L2.tCons, L2.tNil, L2.rIxS, L2.rI0, L2.rI, L2.rEq, L2.rNe, L2.tAug, L2.ipI, L2.tC, L2.tIfS, L2.tIf, L2.tCall, L2.tAsg, L2.gName, L2.tSl, L2.rSlS, L2.tPart, L2.tNoPart, L2.tBM, L2.tBM0, L2.tB, L2.tAndV, L2.tOrV, L2.tNotV, L2.tDrop, L2.tNext, L2.tChain, L2.tPar, Cm.tErr, Cm.tGT, L2.tTup, L2.tLst,
  List.getElem?_cons_zero, List.getElem?_cons_succ, Option.some.injEq, exists_eq_left', exists_eq_left, exists_eq', exists_eq, exists_and_left, exists_and_right, exists_const, List.cons.injEq, and_true, true_and, L2.V.str.injEq, L2.V.int.injEq, L2.V.bl.injEq, L2.V.ref.injEq, PySem.Str.mk.injEq, Tx.arr1, Tx.str_len, Tx.at_nat, Tx.cut_nat, Tx.find_one,
  and_assoc, Int.ofNat_inj, Nat.add_sub_cancel_left, Lx.take1_eq, decide_eq_true_eq, Bool.not_eq_true', decide_eq_false_iff_not, Int.ofNat_lt, Int.ofNat_le, Bool.false_eq_true, if_false, if_true, List.set_cons_zero, List.set_cons_succ, List.append_nil, List.nil_append, ↓reduceIte, Cm.nat_succ, Cm.nat_add, Cm.nat_two, List.toList_toArray, not_true, not_false_iff, Cm.toArr_inj, Cm.two_one, Cm.tyV_str, Cm.scal_ss, Cm.scal_ii, Cm.scal_bb, Cm.cb_K, hz, CwR.tReplC]
    have e1 := Tx.cut_1m1 t
    rw [e1]
    have hl : (List.take (t.length - 2) (List.drop 1 t)).length ≤ t.length := by rw [List.length_take, List.length_drop]; omega
    refine ⟨by rw [Tx.str_len]; show _ + (_ + 1) * 1 ≤ _; omega, ?_⟩
    rw [Tx.repl_list _ _ _ (by decide)]
    exact k
theorem ok_string_word (M : Md P w K mg base CB) : Ok P w K mg base 3 "string_word" ["text", "at"] (spWord CB strWord) := by
  refine mk M.a_string_word sc_string_word (fun _ _ _ _ _ _ us hl => match us, hl with | [_, _], _ => rfl) (fun vs H Q E h => ?_) (fun f cdv A outer s H vs Q E hr h => ?_)
  · obtain ⟨t, a, rfl, _⟩ := h
    rfl
  · obtain ⟨t, a, rfl, ht, ha, k⟩ := h
    have hz := szl ht
    have ha' := Nat.le_of_lt ha
    refine ⟨_, (pss_cons (ps_asg (pc (ok_string_end M) (hr.mono (by decide)) (by rfl) psb (pa_cons (pv 0) (pa_cons (pv 1) pa_nil))) (pg_name (i := 2) sc_string_word.nd rfl (.inl rfl)))
      (pss_cons (ps_if (pt_cmpR op_lt (pv 2) pe_int (nomark _)) (pss_one (ps_raise rfl tkb (pmk1 M.x_BadSource hr (by rfl) (pv 1)))) pss_nil)
      (pss_one (ps_ret (pe_tup (pa_cons (pe_strL [115, 116, 114]) (pa_cons (pc (ok_string_of M) (hr.mono (by decide)) (by rfl) psb (pa_cons (pe_slice sl_str (pv 0) (po_some (pv 1)) (po_some (pv 2))) pa_nil)) (pa_cons (pv 2) pa_nil)))))))), ?_⟩
    show tSeq _ _ _ [some (S t), some (.int a), none] H
    simp only [L2.tSeq, L2.tRet, L2.tVar, L2.tAnd, L2.tOr, L2.tNot, L2.tTest, L2.tOp, L2.tUn, L2.rU, L2.tCB, L2.tCons, L2.tNil, L2.rIxS, L2.rI0, L2.rI, L2.rEq, L2.rNe, L2.tAug, L2.ipI, L2.tC, L2.tIfS, L2.tIf, L2.tCall, L2.tAsg, L2.gName, L2.tSl, L2.rSlS, L2.tPart, L2.tNoPart, L2.tBM, L2.tBM0, L2.tB, L2.tAndV, L2.tOrV, L2.tNotV, L2.tDrop, L2.tNext, L2.tChain, L2.tPar, Cm.tErr, Cm.tGT, L2.tTup, L2.tLst,
  List.getElem?_cons_zero, List.getElem?_cons_succ, Option.some.injEq, exists_eq_left', exists_eq_left, exists_eq', exists_eq, exists_and_left, exists_and_right, exists_const, List.cons.injEq, and_true, true_and, L2.V.str.injEq, L2.V.int.injEq, L2.V.bl.injEq, L2.V.ref.injEq, PySem.Str.mk.injEq, Tx.arr1, Tx.str_len, Tx.at_nat, Tx.cut_nat, Tx.find_one,
  and_assoc, Int.ofNat_inj, Nat.add_sub_cancel_left, Lx.take1_eq, decide_eq_true_eq, Bool.not_eq_true', decide_eq_false_iff_not, Int.ofNat_lt, Int.ofNat_le, Bool.false_eq_true, if_false, if_true, List.set_cons_zero, List.set_cons_succ, List.append_nil, List.nil_append, ↓reduceIte, Cm.nat_succ, Cm.nat_add, Cm.nat_two, List.toList_toArray, not_true, not_false_iff, Cm.toArr_inj, Cm.two_one, Cm.tyV_str, Cm.scal_ss, Cm.scal_ii, Cm.scal_bb, Cm.cb_K, hz, ht, spStrEnd, ha', spStrOf]
    unfold strWord at k
    cases q : strLen (t.drop a) with
    | none =>
      rw [q] at k
      exact fun d hd => k d _ (same_new hd) hd upd_same
    | some n =>
      rw [q] at k
      have hle := strLen_le q
      rw [List.length_drop] at hle
      show if ((a + n : Nat) : Int) < 0 then _ else _
      rw [if_neg (by omega)]
      refine ⟨(t.drop a).take n, ?_, ?_, by show 3 ≤ sizeLine; decide, fun p hp => k p _ (same_new hp) hp upd_same⟩
      · show cutS _ (some (a : Int)) (some ((a + n : Nat) : Int)) = _
        rw [Tx.cut_nat, Nat.add_sub_cancel_left]
      · show (List.take n (List.drop a t)).length ≤ 100000
        rw [List.length_take]
        omega
theorem ok_symbol_word (M : Md P w K mg base CB) : Ok P w K mg base 6 "symbol_word" ["text", "at"] (spWord CB symWord) := by
  refine mk M.a_symbol_word sc_symbol_word (fun _ _ _ _ _ _ us hl => match us, hl with | [_, _], _ => rfl) (fun vs H Q E h => ?_) (fun f cdv A outer s H vs Q E hr h => ?_)
  · obtain ⟨t, a, rfl, _⟩ := h
    rfl
  · obtain ⟨t, a, rfl, ht, ha, k⟩ := h
    have hz := szl ht
    have ha' := Nat.le_of_lt ha
    refine ⟨_, (pss_cons (ps_asg (pc (ok_symbol_end M) (hr.mono (by decide)) (by rfl) psb (pa_cons (pv 0) (pa_cons (pv 1) pa_nil))) (pg_name (i := 2) sc_symbol_word.nd rfl (.inl rfl)))
      (pss_cons (ps_if (pt_cmpR op_lt (pv 2) pe_int (nomark _)) (pss_one (ps_raise rfl tkb (pmk1 M.x_BadSource hr (by rfl) (pv 1)))) pss_nil)
      (pss_cons (ps_if (pt_cmpR op_gt (pv 2) (pv 1) (nomark _)) (pss_cons (ps_asg (pe_slice sl_str (pv 0) (po_some (pe_op op_add (pv 1) pe_int)) (po_some (pv 2))) (pg_name (i := 3) sc_symbol_word.nd rfl (.inl rfl)))
      (pss_one (ps_ret (pe_tup (pa_cons (pe_strL [115, 121, 109]) (pa_cons (pe_ifExp (pt_cmpR op_eq (pe_ix ix_str (pv 3) pe_int (fun _ _ => rfl)) (pe_strL [39]) (nomark _)) (pc (ok_string_of M) (hr.mono (by decide)) (by rfl) psb (pa_cons (pv 3) pa_nil)) (pv 3)) (pa_cons (pv 2) pa_nil))))))) pss_nil)
      (pss_one (ps_ret (pc (ok_sign_word M) (hr.mono (by decide)) (by rfl) psb (pa_cons (pv 0) (pa_cons (pv 1) pa_nil)))))))), ?_⟩
    show tSeq _ _ _ [some (S t), some (.int a), none, none] H
    simp only [L2.tSeq, L2.tRet, L2.tVar, L2.tAnd, L2.tOr, L2.tNot, L2.tTest, L2.tOp, L2.tUn, L2.rU, L2.tCB, L2.tCons, L2.tNil, L2.rIxS, L2.rI0, L2.rI, L2.rEq, L2.rNe, L2.tAug, L2.ipI, L2.tC, L2.tIfS, L2.tIf, L2.tCall, L2.tAsg, L2.gName, L2.tSl, L2.rSlS, L2.tPart, L2.tNoPart, L2.tBM, L2.tBM0, L2.tB, L2.tAndV, L2.tOrV, L2.tNotV, L2.tDrop, L2.tNext, L2.tChain, L2.tPar, Cm.tErr, Cm.tGT, L2.tTup, L2.tLst,
  List.getElem?_cons_zero, List.getElem?_cons_succ, Option.some.injEq, exists_eq_left', exists_eq_left, exists_eq', exists_eq, exists_and_left, exists_and_right, exists_const, List.cons.injEq, and_true, true_and, L2.V.str.injEq, L2.V.int.injEq, L2.V.bl.injEq, L2.V.ref.injEq, PySem.Str.mk.injEq, Tx.arr1, Tx.str_len, Tx.at_nat, Tx.cut_nat, Tx.find_one,
  and_assoc, Int.ofNat_inj, Nat.add_sub_cancel_left, Lx.take1_eq, decide_eq_true_eq, Bool.not_eq_true', decide_eq_false_iff_not, Int.ofNat_lt, Int.ofNat_le, Bool.false_eq_true, if_false, if_true, List.set_cons_zero, List.set_cons_succ, List.append_nil, List.nil_append, ↓reduceIte, Cm.nat_succ, Cm.nat_add, Cm.nat_two, List.toList_toArray, not_true, not_false_iff, Cm.toArr_inj, Cm.two_one, Cm.tyV_str, Cm.scal_ss, Cm.scal_ii, Cm.scal_bb, Cm.cb_K, hz, ht, spSymEnd, ha, spStrOf, spWord]
    unfold symWord at k
    cases q : symLen (t.drop a) with
    | none =>
      rw [q] at k
      exact fun d hd => k d _ (same_new hd) hd upd_same
    | some n =>
      rw [q] at k
      have hle := symLen_le q
      rw [List.length_drop] at hle
      show if ((a + n : Nat) : Int) < 0 then _ else if (a : Int) < ((a + n : Nat) : Int) then _ else _
      rw [if_neg (by omega)]
      split
      · rename_i hx
        have k' : WR CB a H Q E (if 0 < n then some (kSym, Sv (if (t.drop a)[1]? = some 39 then unq (((t.drop a).drop 1).take (n - 1)) else ((t.drop a).drop 1).take (n - 1)), n) else signWord (t.drop a)) := k
        rw [if_pos (by omega), List.drop_drop, List.getElem?_drop] at k'
        have ec : cutS ⟨t.toArray⟩ (some ((a + 1 : Nat) : Int)) (some (oN a (some n))) = ⟨((t.drop (a + 1)).take (n - 1)).toArray⟩ := by
          show cutS _ (some ((a + 1 : Nat) : Int)) (some ((a + n : Nat) : Int)) = _
          rw [Tx.cut_nat, show a + n - (a + 1) = n - 1 by omega]
        rw [ec, Tx.str_len]
        have hl : (List.take (n - 1) (List.drop (a + 1) t)).length = n - 1 := by rw [List.length_take, List.length_drop]; omega
        have hlt : a + 1 < t.length := by omega
        have e0 : atI (List.take (n - 1) (List.drop (a + 1) t)) 0 = some t[a + 1] := by
          have := Tx.at_nat (List.take (n - 1) (List.drop (a + 1) t)) 0
          rw [show ((0 : Nat) : Int) = 0 from rfl] at this
          rw [this, List.getElem?_take_of_lt (by omega), List.getElem?_drop]
          exact List.getElem?_eq_getElem hlt
        refine ⟨by rw [hl]; omega, t[a + 1], e0, ?_⟩
        rw [List.getElem?_eq_getElem hlt] at k'
        split
        · rename_i h39
          rw [if_pos (by rw [h39])] at k'
          exact ⟨_, rfl, by show (List.take (n - 1) (List.drop (a + 1) t)).length ≤ 100000; rw [hl]; omega, by show 3 ≤ sizeLine; decide, fun p hp => k' p _ (same_new hp) hp upd_same⟩
        · rename_i h39
          rw [if_neg (by intro z; exact h39 (Option.some.inj z))] at k'
          exact ⟨by show 3 ≤ sizeLine; decide, fun p hp => k' p _ (same_new hp) hp upd_same⟩
      · rename_i hx
        have k' : WR CB a H Q E (if 0 < n then some (kSym, Sv (if (t.drop a)[1]? = some 39 then unq (((t.drop a).drop 1).take (n - 1)) else ((t.drop a).drop 1).take (n - 1)), n) else signWord (t.drop a)) := k
        rw [if_neg (by omega)] at k'
        exact k'
theorem ok_word_at (M : Md P w K mg base CB) : Ok P w K mg base 7 "word_at" ["text", "at", "negative"] (spWordAt CB) := by
  refine mk M.a_word_at sc_word_at (fun _ _ _ _ _ _ us hl => match us, hl with | [_, _, _], _ => rfl) (fun vs H Q E h => ?_) (fun f cdv A outer s H vs Q E hr h => ?_)
  · obtain ⟨t, a, neg, rfl, _⟩ := h
    rfl
  · obtain ⟨t, a, neg, rfl, ht, ha, k⟩ := h
    have hz := szl ht
    have ha' := Nat.le_of_lt ha
    refine ⟨_, (pss_cons (ps_if (pt_cmpR op_in_sign (pe_ix ix_str (pv 0) (pv 1) (fun _ _ => rfl)) (pn_str (by rfl) M.c_LETTERS) (by rfl)) (pss_one (ps_ret (pc (ok_name_word M) (hr.mono (by decide)) (by rfl) psb (pa_cons (pv 0) (pa_cons (pv 1) pa_nil))))) pss_nil)
      (pss_cons (ps_if (pt_cmpR op_eq (pe_ix ix_str (pv 0) (pv 1) (fun _ _ => rfl)) (pe_strL [39]) (nomark _)) (pss_one (ps_ret (pc (ok_string_word M) (hr.mono (by decide)) (by rfl) psb (pa_cons (pv 0) (pa_cons (pv 1) pa_nil))))) pss_nil)
      (pss_cons (ps_if (pt_cmpR op_eq (pe_ix ix_str (pv 0) (pv 1) (fun _ _ => rfl)) (pe_strL [35]) (nomark _)) (pss_one (ps_ret (pc (ok_symbol_word M) (hr.mono (by decide)) (by rfl) psb (pa_cons (pv 0) (pa_cons (pv 1) pa_nil))))) pss_nil)
      (pss_cons (ps_asg (pc (ok_integer_end M) (hr.mono (by decide)) (by rfl) psb (pa_cons (pv 0) (pa_cons (pv 1) (pa_cons (pv 2) pa_nil)))) (pg_name (i := 3) sc_word_at.nd rfl (.inl rfl)))
      (pss_cons (ps_if (pt_cmpR op_gt (pv 3) (pv 1) (nomark _)) (pss_one (ps_ret (pe_tup (pa_cons (pe_strL [105, 110, 116]) (pa_cons (pe_callTy call_int_str (by rfl) M.g_int (by decide +kernel) (pa_cons (pe_slice sl_str (pv 0) (po_some (pv 1)) (po_some (pv 3))) pa_nil)) (pa_cons (pv 3) pa_nil)))))) pss_nil)
      (pss_one (ps_ret (pc (ok_sign_word M) (hr.mono (by decide)) (by rfl) psb (pa_cons (pv 0) (pa_cons (pv 1) pa_nil)))))))))), ?_⟩
    show tSeq _ _ _ [some (S t), some (.int a), some (.bl neg), none] H
    simp only [L2.tSeq, L2.tRet, L2.tVar, L2.tAnd, L2.tOr, L2.tNot, L2.tTest, L2.tOp, L2.tUn, L2.rU, L2.tCB, L2.tCons, L2.tNil, L2.rIxS, L2.rI0, L2.rI, L2.rEq, L2.rNe, L2.tAug, L2.ipI, L2.tC, L2.tIfS, L2.tIf, L2.tCall, L2.tAsg, L2.gName, L2.tSl, L2.rSlS, L2.tPart, L2.tNoPart, L2.tBM, L2.tBM0, L2.tB, L2.tAndV, L2.tOrV, L2.tNotV, L2.tDrop, L2.tNext, L2.tChain, L2.tPar, Cm.tErr, Cm.tGT, L2.tTup, L2.tLst,
  List.getElem?_cons_zero, List.getElem?_cons_succ, Option.some.injEq, exists_eq_left', exists_eq_left, exists_eq', exists_eq, exists_and_left, exists_and_right, exists_const, List.cons.injEq, and_true, true_and, L2.V.str.injEq, L2.V.int.injEq, L2.V.bl.injEq, L2.V.ref.injEq, PySem.Str.mk.injEq, Tx.arr1, Tx.str_len, Tx.at_nat, Tx.cut_nat, Tx.find_one,
  and_assoc, Int.ofNat_inj, Nat.add_sub_cancel_left, Lx.take1_eq, decide_eq_true_eq, Bool.not_eq_true', decide_eq_false_iff_not, Int.ofNat_lt, Int.ofNat_le, Bool.false_eq_true, if_false, if_true, List.set_cons_zero, List.set_cons_succ, List.append_nil, List.nil_append, ↓reduceIte, Cm.nat_succ, Cm.nat_add, Cm.nat_two, List.toList_toArray, not_true, not_false_iff, Cm.toArr_inj, Cm.two_one, Cm.tyV_str, Cm.scal_ss, Cm.scal_ii, Cm.scal_bb, Cm.cb_K, hz, ht, spIntEnd, ha, spWord]
    have ex := List.getElem?_eq_getElem ha
    have eh := headD_drop ha
    unfold wordAt at k
    rw [eh] at k
    dsimp only at k
    refine ⟨_, ex, ?_⟩
    split
    · rename_i hx
      rw [if_pos hx] at k
      exact k
    rename_i hx
    rw [if_neg hx] at k
    refine ⟨_, ex, ?_⟩
    split
    · rename_i hx
      rw [if_pos hx] at k
      exact k
    rename_i hx
    rw [if_neg hx] at k
    refine ⟨_, ex, ?_⟩
    split
    · rename_i hx
      rw [if_pos hx] at k
      exact k
    rename_i hx
    rw [if_neg hx] at k
    split
    · rename_i hi
      have hi' : 0 < intLen (t.drop a) neg := by omega
      rw [if_pos hi'] at k
      have hl := intLen_le60 (t.drop a) neg
      exact ⟨_, intText_ok hi', by rw [List.length_take]; omega, by show 3 ≤ sizeLine; decide, fun p hp => k p _ (same_new hp) hp upd_same⟩
    · rename_i hi
      rw [if_neg (by omega)] at k
      exact k
end
end W
namespace W
open PySem PySem.Spec PyProof.Rows L2 Cm Lx
/-- the words of ws lie in the list at l -/
def TokAt (H : Hp) (p : Addr) (t : Lx.Tok) : Prop := H p = some (.tup [S t.1, t.2.1, .int (t.2.2 : Nat)]) ∧ flatV t.2.1 = true ∧ ∀ l, scal t.2.1 (S l) = true
def ToksAt (H : Hp) (l : Addr) (ws : Toks) : Prop := ∃ ps : List Addr, H l = some (.lst (ps.map V.ref)) ∧ Paired (TokAt H) ps ws
def spMay (K : PySem.W.Frag) : Sp := fun vs H Q _ => ∃ (l i : Addr) (ws : Toks) (wi : List Bool), vs = [.ref l, .ref i] ∧ ToksAt H l ws ∧ H i = some (.lst (wi.map V.bl)) ∧ ∀ H', Same H H' → Q (.bl (mayNeg ws wi)) H'
def spNote : Sp := fun vs H Q _ => ∃ (i : Addr) (wi : List Bool) (k : List Nat) (v : V), vs = [.ref i, S k, v] ∧ flatV v = true ∧ (∀ l, scal v (S l) = true) ∧ H i = some (.lst (wi.map V.bl)) ∧ wi.length ≤ 100000 ∧
  ∀ H', (∀ b o, b ≠ i → H b = some o → H' b = some o) → H' i = some (.lst ((noteSign wi k v).map V.bl)) → Q .non H'
def note1 (wi : List Bool) (k : List Nat) (v : V) : List Bool := if k = kSign ∧ (v = Sv [35, 40] ∨ v = Sv [40]) then wi ++ [decide (v = Sv [35, 40]) || decide (wi.getLast? = some true)] else wi
theorem note1_eq (wi : List Bool) (k : List Nat) (v : V) : noteSign wi k v = if k = kSign ∧ v = Sv [41] ∧ note1 wi k v ≠ [] then (note1 wi k v).dropLast else note1 wi k v := rfl
theorem S_inj {a b : List Nat} (h : S a = S b) : a = b := by
  have := congrArg (fun v => match v with | V.str z => z.cps.toList | _ => []) h
  simpa using this
theorem inV_strs (k : List Nat) (ks : List (List Nat)) : inV (S k) (ks.map S) = decide (k ∈ ks) := by
  unfold inV
  induction ks with
  | nil => rfl
  | cons x ks ih =>
    rw [List.map_cons, List.any_cons, ih]
    have e : eqV (S x) (S k) = decide (x = k) := by
      show ((⟨x.toArray⟩ : Str) == ⟨k.toArray⟩) = _
      rw [Bool.eq_iff_iff, beq_iff_eq, decide_eq_true_eq]
      constructor
      · intro z
        have := congrArg (fun s : Str => s.cps.toList) z
        simpa using this
      · rintro rfl
        rfl
    rw [e]
    by_cases h : k = x
    · subst h
      simp
    · have h2 : ¬ x = k := fun z => h z.symm
      simp [h, h2]
theorem inV_two {v : V} {a b : List Nat} (fv : flatV v = true) (h : inV v [S a, S b] = true) : v = S a ∨ v = S b := by
  unfold inV at h
  simp only [List.any_cons, List.any_nil, Bool.or_false, Bool.or_eq_true] at h
  cases v with
  | str z =>
    rcases h with h | h
    · left
      have h' : ((⟨a.toArray⟩ : Str) == z) = true := h
      rw [← eq_of_beq h']
    · right
      have h' : ((⟨b.toArray⟩ : Str) == z) = true := h
      rw [← eq_of_beq h']
  | _ => rcases h with h | h <;> cases h
theorem inV_two' {v : V} {a b : List Nat} (h : ¬ inV v [S a, S b] = true) : ¬ (v = S a ∨ v = S b) := by
  intro z
  apply h
  unfold inV
  simp only [List.any_cons, List.any_nil, Bool.or_false, Bool.or_eq_true]
  rcases z with rfl | rfl
  · left
    exact beq_self_eq_true (⟨a.toArray⟩ : Str)
  · right
    exact beq_self_eq_true (⟨b.toArray⟩ : Str)
def spWordsIn (CB : Addr) : Sp := fun vs H Q E => ∃ t : List Nat, vs = [S t] ∧ BT t ∧ (match lex t with
  | .ok ws => ∀ l H', Same H H' → H l = none → ToksAt H' l ws → Q (.ref l) H'
  | .error p => ∀ d H', Same H H' → H d = none → H' d = some (.xd [("place", .int (p : Nat))]) → E (.ref CB) (some d) H')
/-- between two turns of the loop -/
def WInv (t : List Nat) (l i : Addr) (H : Hp) (m : Nat) (σ : L2.St) (H' : Hp) : Prop := ∃ (a : Nat) (ws : Toks) (wi : List Bool) (v4 v5 v6 : Option V), σ = [some (S t), some (.ref l), some (.ref i), some (.int a), v4, v5, v6] ∧ Same H H' ∧ ToksAt H' l ws ∧ H' i = some (.lst (wi.map V.bl)) ∧
  ws.length ≤ a ∧ wi.length ≤ a ∧ a ≤ t.length ∧ lexF (t.length - a) (t.drop a) a ws wi = lex t ∧ m = t.length - a
section
variable {P : Program} {w : World} {K : PySem.W.Frag} {mg : Str → Option Value} {base : Heap} {CB : Addr}
theorem ok_may_be_negative (M : Md P w K mg base CB) : Ok P w K mg base 1 "may_be_negative" ["words", "within"] (spMay K) := by
  refine mk M.a_may_be_negative sc_may_be_negative (fun _ _ _ _ _ _ us hl => match us, hl with | [_, _], _ => rfl) (fun vs H Q E h => ?_) (fun f cdv A outer s H vs Q E hr h => ?_)
  · obtain ⟨l, i, ws, wi, rfl, _⟩ := h
    rfl
  · obtain ⟨l, i, ws, wi, rfl, hw, hi, k⟩ := h
    refine ⟨_, (pss_cons (ps_if (PW.pt (pw_or (pt_cmpR (op_eqF hr.units0) (pv 0) (pe_lst pa_nil) (nomark _)) (pw_or1 (pt_cmpR (op_eqF hr.units0) (pe_slice sl_list (pv 1) (po_some (pe_un un_neg pe_int)) po_none) (pe_lst (pa_cons pe_bl pa_nil)) (nomark _))))) (pss_one (ps_ret pe_bl)) pss_nil)
      (pss_cons (ps_asg (pe_ix ix_list (pv 0) (pe_un un_neg pe_int) (fun _ _ => rfl)) (pg_tup (by rfl) (pgs_cons (pg_name (i := 2) sc_may_be_negative.nd rfl (.inl rfl)) (pgs_cons (pg_name (i := 3) sc_may_be_negative.nd rfl (.inl rfl)) (pgs_cons (pg_name (i := 4) sc_may_be_negative.nd rfl (.inl rfl)) pgs_nil)))))
      (pss_one (ps_ret (pe_and (pe_cmpR op_notIn_seq (pv 2) (pn_tup (by rfl) M.c_ENDS) (by rfl)) (pe_one (pe_not (pe_and (pe_cmpR op_eq (pv 2) (pe_strL [115, 105, 103, 110]) (nomark _)) (pe_one (pe_cmpR op_in_seq (pv 3) (pn_tup (by rfl) M.c_CLOSING) (by rfl))))))))))), ?_⟩
    show tSeq _ _ _ [some (.ref l), some (.ref i), none, none, none] H
    simp only [L2.tSeq, L2.tRet, L2.tVar, L2.tAnd, L2.tOr, L2.tNot, L2.tTest, L2.tOp, L2.tUn, L2.rU, L2.tCB, L2.tCons, L2.tNil, L2.rIxS, L2.rI0, L2.rI, L2.rEq, L2.rNe, L2.tAug, L2.ipI, L2.tC, L2.tIfS, L2.tIf, L2.tCall, L2.tAsg, L2.gName, L2.tSl, L2.rSlS, L2.tPart, L2.tNoPart, L2.tBM, L2.tBM0, L2.tB, L2.tAndV, L2.tOrV, L2.tNotV, L2.tDrop, L2.tNext, L2.tChain, L2.tPar, L2.tPar3, Cm.tErr, Cm.tGT, L2.tTup, L2.tLst,
  List.getElem?_cons_zero, List.getElem?_cons_succ, Option.some.injEq, exists_eq_left', exists_eq_left, exists_eq', exists_eq, exists_and_left, exists_and_right, exists_const, List.cons.injEq, and_true, true_and, L2.V.str.injEq, L2.V.int.injEq, L2.V.bl.injEq, L2.V.ref.injEq, PySem.Str.mk.injEq, Tx.arr1, Tx.str_len, Tx.at_nat, Tx.cut_nat, Tx.find_one,
  and_assoc, Int.ofNat_inj, Nat.add_sub_cancel_left, Lx.take1_eq, decide_eq_true_eq, Bool.not_eq_true', decide_eq_false_iff_not, Int.ofNat_lt, Int.ofNat_le, Bool.false_eq_true, if_false, if_true, List.set_cons_zero, List.set_cons_succ, List.append_nil, List.nil_append, ↓reduceIte, Cm.nat_succ, Cm.nat_add, Cm.nat_two, List.toList_toArray, not_true, not_false_iff, Cm.toArr_inj, Cm.two_one, Cm.tyV_str, Cm.scal_ss, Cm.scal_ii, Cm.scal_bb, Cm.cb_K, rEqF, rSlL, rIxL, gTup, gCons, gNil, rIn]
    obtain ⟨ps, hl, pw⟩ := hw
    refine ⟨by show 0 ≤ sizeLine; decide, ?_⟩
    intro p0 n_p0
    obtain ⟨H1, e_H1, s1, h1⟩ : ∃ Hz, upd H p0 (HO.lst []) = Hz ∧ Same H Hz ∧ Hz p0 = some (HO.lst []) := ⟨_, rfl, same_new n_p0, upd_same⟩
    simp only [e_H1]
    clear e_H1
    refine ⟨_, sqL (s1 _ _ hl), _, sqL h1, flatP_nil _, ?_⟩
    rw [eqLs_nil]
    unfold mayNeg at k
    cases hg : ws.getLast? with
    | none =>
      rw [hg] at k
      have : ws = [] := List.getLast?_eq_none_iff.mp hg
      subst this
      cases pw
      exact k H1 s1
    | some tk =>
      obtain ⟨kd, v, pl⟩ := tk
      rw [hg] at k
      obtain ⟨pa, hpa, hta, hfl, _⟩ := paired_last pw hg
      have hne : (ps.map V.ref).isEmpty = false := by
        cases ps with
        | nil => cases hpa
        | cons a b => rfl
      rw [hne]
      rw [if_neg Bool.false_ne_true]
      refine ⟨_, sqL (s1 _ _ hi), ?_⟩
      intro p1 n_p1
      obtain ⟨H2, e_H2, s2, h2⟩ : ∃ Hz, upd H1 p1 (HO.lst (cutV (wi.map V.bl) (some (-1)) none)) = Hz ∧ Same H1 Hz ∧ Hz p1 = some (HO.lst (cutV (wi.map V.bl) (some (-1)) none)) := ⟨_, rfl, same_new n_p1, upd_same⟩
      simp only [e_H2]
      clear e_H2
      refine ⟨by show 1 ≤ sizeLine; decide, ?_⟩
      intro p2 n_p2
      obtain ⟨H3, e_H3, s3, h3⟩ : ∃ Hz, upd H2 p2 (HO.lst [V.bl true]) = Hz ∧ Same H2 Hz ∧ Hz p2 = some (HO.lst [V.bl true]) := ⟨_, rfl, same_new n_p2, upd_same⟩
      simp only [e_H3]
      clear e_H3
      refine ⟨_, sqL (s3 _ _ h2), _, sqL h3, flat_last _, ?_⟩
      rw [eq_true_last]
      have s13 := (s1.trans s2).trans s3
      split
      · rename_i hx
        have k' := k H3 s13
        dsimp only at k'
        rw [if_pos (of_decide_eq_true hx)] at k'
        exact k'
      · rename_i hx
        have k' := k H3 s13
        dsimp only at k'
        rw [if_neg (fun z => hx (decide_eq_true z))] at k'
        refine ⟨_, sqL (s13 _ _ hl), V.ref pa, ?_, pa, rfl, _, sqT (s13 _ _ hta), rfl, ?_⟩
        · rw [Cm.atI_last, List.getLast?_map, hpa]
          rfl
        refine ⟨_, _, rfl, _, _, rfl, _, _, rfl, rfl, fun c1 hc1 => ⟨_, .inr (hc1 H3), rfl, rfl, ?_⟩⟩
        have hin : inV (S kd) (kENDS.map S) = decide (kd ∈ kENDS) := inV_strs kd kENDS
        rw [hin]
        split
        · rename_i hke
          have hke' : decide (kd ∈ kENDS) = false := hke
          rw [hke'] at k'
          refine ⟨rfl, ?_⟩
          split
          · rename_i hks
            have hks' : kd = kSign := S_inj hks
            refine fun c2 hc2 => ⟨_, .inr (hc2 H3), hfl, rfl, ?_⟩
            rw [decide_eq_true hks'] at k'
            exact k'
          · rename_i hks
            have hks' : ¬ kd = kSign := fun z => hks (by show S kd = _; rw [z]; rfl)
            rw [decide_eq_false hks'] at k'
            exact k'
        · rename_i hke
          have hke' : decide (kd ∈ kENDS) = true := by simpa using hke
          rw [hke'] at k'
          exact k'
theorem ok_note_sign (M : Md P w K mg base CB) : Ok P w K mg base 1 "note_sign" ["within", "kind", "value"] spNote := by
  refine mk M.a_note_sign sc_note_sign (fun _ _ _ _ _ _ us hl => match us, hl with | [_, _, _], _ => rfl) (fun vs H Q E h => ?_) (fun f cdv A outer s H vs Q E hr h => ?_)
  · obtain ⟨i, wi, kd, v, rfl, _⟩ := h
    rfl
  · obtain ⟨i, wi, kd, v, rfl, fv, sv, hi, hl, k⟩ := h
    refine ⟨_, (C8.pss_cut (ps_if (PW.pt (pw_and (pt_cmpR op_eq (pv 1) (pe_strL [115, 105, 103, 110]) (nomark _)) (pw_and1 (pt_cmpR op_in_seq (pv 2) (pe_tup (pa_cons (pe_strL [35, 40]) (pa_cons (pe_strL [40]) pa_nil))) (by rfl))))) (pss_one (ps_expr (pe_bm PySem.F.plainAttrs_list PySem.F.slot_list_append PySem.F.type_list_append mt_append (pv 0) (pa_cons (pe_or (pe_cmpR op_eq (pv 2) (pe_strL [35, 40]) (nomark _)) (pe_one (pe_cmpR (op_eqF hr.units0) (pe_slice sl_list (pv 0) (po_some (pe_un un_neg pe_int)) po_none) (pe_lst (pa_cons pe_bl pa_nil)) (nomark _)))) pa_nil)))) pss_nil)
      (pss_one (ps_if (PW.pt (pw_and (pt_cmpR op_eq (pv 1) (pe_strL [115, 105, 103, 110]) (nomark _)) (pw_and (pt_cmpR op_eq (pv 2) (pe_strL [41]) (nomark _)) (pw_and1 (pt_cmpR (op_neF hr.units0) (pv 0) (pe_lst pa_nil) (nomark _)))))) (pss_one (ps_expr (pe_bm0 PySem.F.plainAttrs_list PySem.F.slot_list_pop PySem.F.type_list_pop mt_pop (pv 0)))) pss_nil))), ?_⟩
    show C8.tCut _ _ _ [some (.ref i), some (S kd), some v] H
    refine ⟨fun σ H' => σ = [some (.ref i), some (S kd), some v] ∧ But i H H' ∧ H' i = some (.lst ((note1 wi kd v).map V.bl)), ?_, ?_⟩
    · simp only [L2.tSeq, L2.tRet, L2.tVar, L2.tAnd, L2.tOr, L2.tNot, L2.tTest, L2.tOp, L2.tUn, L2.rU, L2.tCB, L2.tCons, L2.tNil, L2.rIxS, L2.rI0, L2.rI, L2.rEq, L2.rNe, L2.tAug, L2.ipI, L2.tC, L2.tIfS, L2.tIf, L2.tCall, L2.tAsg, L2.gName, L2.tSl, L2.rSlS, L2.tPart, L2.tNoPart, L2.tBM, L2.tBM0, L2.tB, L2.tAndV, L2.tOrV, L2.tNotV, L2.tDrop, L2.tNext, L2.tChain, L2.tPar, L2.tPar3, Cm.tErr, Cm.tGT, L2.tTup, L2.tLst,
  List.getElem?_cons_zero, List.getElem?_cons_succ, Option.some.injEq, exists_eq_left', exists_eq_left, exists_eq', exists_eq, exists_and_left, exists_and_right, exists_const, List.cons.injEq, and_true, true_and, L2.V.str.injEq, L2.V.int.injEq, L2.V.bl.injEq, L2.V.ref.injEq, PySem.Str.mk.injEq, Tx.arr1, Tx.str_len, Tx.at_nat, Tx.cut_nat, Tx.find_one,
  and_assoc, Int.ofNat_inj, Nat.add_sub_cancel_left, Lx.take1_eq, decide_eq_true_eq, Bool.not_eq_true', decide_eq_false_iff_not, Int.ofNat_lt, Int.ofNat_le, Bool.false_eq_true, if_false, if_true, List.set_cons_zero, List.set_cons_succ, List.append_nil, List.nil_append, ↓reduceIte, Cm.nat_succ, Cm.nat_add, Cm.nat_two, List.toList_toArray, not_true, not_false_iff, Cm.toArr_inj, Cm.two_one, Cm.tyV_str, Cm.scal_ss, Cm.scal_ii, Cm.scal_bb, Cm.cb_K, rEqF, rSlL, rIxL, rIn, rNeF, rAppend, rPop, sv]
      split
      · rename_i hk
        refine ⟨by show 2 ≤ sizeLine; decide, ?_⟩
        intro p0 n_p0
        obtain ⟨H1, e_H1, s1, h1⟩ : ∃ Hz, upd H p0 (HO.tup [S [35, 40], S [40]]) = Hz ∧ Same H Hz ∧ Hz p0 = some (HO.tup [S [35, 40], S [40]]) := ⟨_, rfl, same_new n_p0, upd_same⟩
        simp only [e_H1]
        clear e_H1
        refine ⟨_, .inr (sqT h1), fv, rfl, ?_⟩
        split
        · rename_i hv
          have hi1 := s1 _ _ hi
          refine ⟨tyV_lst hi1, ?_⟩
          have hc : v = S [35, 40] ∨ v = S [40] := inV_two fv hv
          have en : note1 wi kd v = wi ++ [decide (v = Sv [35, 40]) || decide (wi.getLast? = some true)] := if_pos ⟨hk, hc⟩
          rw [en]
          split
          · rename_i h35
            refine ⟨_, hi1, by rw [List.length_map]; exact Nat.lt_of_le_of_lt hl (by decide), ?_⟩
            obtain ⟨H2, e_H2, s2, h2⟩ : ∃ Hz, upd H1 i (HO.lst (wi.map V.bl ++ [V.bl true])) = Hz ∧ But i H1 Hz ∧ Hz i = some (HO.lst (wi.map V.bl ++ [V.bl true])) := ⟨_, rfl, but_upd, upd_same⟩
            simp only [e_H2]
            clear e_H2
            refine ⟨(Same.but s1).trans s2, ?_⟩
            rw [h2, h35]
            simp
          · rename_i h35
            refine ⟨_, sqL hi1, ?_⟩
            intro p1 n_p1
            obtain ⟨H2, e_H2, s2, h2⟩ : ∃ Hz, upd H1 p1 (HO.lst (cutV (wi.map V.bl) (some (-1)) none)) = Hz ∧ Same H1 Hz ∧ Hz p1 = some (HO.lst (cutV (wi.map V.bl) (some (-1)) none)) := ⟨_, rfl, same_new n_p1, upd_same⟩
            simp only [e_H2]
            clear e_H2
            refine ⟨by show 1 ≤ sizeLine; decide, ?_⟩
            intro p2 n_p2
            obtain ⟨H3, e_H3, s3, h3⟩ : ∃ Hz, upd H2 p2 (HO.lst [V.bl true]) = Hz ∧ Same H2 Hz ∧ Hz p2 = some (HO.lst [V.bl true]) := ⟨_, rfl, same_new n_p2, upd_same⟩
            simp only [e_H3]
            clear e_H3
            refine ⟨_, sqL (s3 _ _ h2), _, sqL h3, flat_last _, ?_⟩
            have s13 := (s1.trans s2).trans s3
            refine ⟨_, s13 _ _ hi, by rw [List.length_map]; exact Nat.lt_of_le_of_lt hl (by decide), ?_⟩
            rw [eq_true_last]
            obtain ⟨H4, e_H4, s4, h4⟩ : ∃ Hz, upd H3 i (HO.lst (wi.map V.bl ++ [V.bl (decide (wi.getLast? = some true))])) = Hz ∧ But i H3 Hz ∧ Hz i = some (HO.lst (wi.map V.bl ++ [V.bl (decide (wi.getLast? = some true))])) := ⟨_, rfl, but_upd, upd_same⟩
            simp only [e_H4]
            clear e_H4
            refine ⟨(Same.but s13).trans s4, ?_⟩
            rw [h4, decide_eq_false h35]
            simp
        · rename_i hv
          have en : note1 wi kd v = wi := if_neg (fun z => inV_two' hv z.2)
          rw [en]
          exact ⟨Same.but s1, s1 _ _ hi⟩
      · rename_i hk
        have en : note1 wi kd v = wi := if_neg (fun z => hk z.1)
        rw [en]
        exact ⟨But.refl, hi⟩
    · rintro σ H' ⟨rfl, hb, h1⟩
      simp only [L2.tSeq, L2.tRet, L2.tVar, L2.tAnd, L2.tOr, L2.tNot, L2.tTest, L2.tOp, L2.tUn, L2.rU, L2.tCB, L2.tCons, L2.tNil, L2.rIxS, L2.rI0, L2.rI, L2.rEq, L2.rNe, L2.tAug, L2.ipI, L2.tC, L2.tIfS, L2.tIf, L2.tCall, L2.tAsg, L2.gName, L2.tSl, L2.rSlS, L2.tPart, L2.tNoPart, L2.tBM, L2.tBM0, L2.tB, L2.tAndV, L2.tOrV, L2.tNotV, L2.tDrop, L2.tNext, L2.tChain, L2.tPar, L2.tPar3, Cm.tErr, Cm.tGT, L2.tTup, L2.tLst,
  List.getElem?_cons_zero, List.getElem?_cons_succ, Option.some.injEq, exists_eq_left', exists_eq_left, exists_eq', exists_eq, exists_and_left, exists_and_right, exists_const, List.cons.injEq, and_true, true_and, L2.V.str.injEq, L2.V.int.injEq, L2.V.bl.injEq, L2.V.ref.injEq, PySem.Str.mk.injEq, Tx.arr1, Tx.str_len, Tx.at_nat, Tx.cut_nat, Tx.find_one,
  and_assoc, Int.ofNat_inj, Nat.add_sub_cancel_left, Lx.take1_eq, decide_eq_true_eq, Bool.not_eq_true', decide_eq_false_iff_not, Int.ofNat_lt, Int.ofNat_le, Bool.false_eq_true, if_false, if_true, List.set_cons_zero, List.set_cons_succ, List.append_nil, List.nil_append, ↓reduceIte, Cm.nat_succ, Cm.nat_add, Cm.nat_two, List.toList_toArray, not_true, not_false_iff, Cm.toArr_inj, Cm.two_one, Cm.tyV_str, Cm.scal_ss, Cm.scal_ii, Cm.scal_bb, Cm.cb_K, rEqF, rSlL, rIxL, rIn, rNeF, rAppend, rPop, sv]
      rw [note1_eq] at k
      split
      · rename_i hk
        split
        · rename_i hv
          refine ⟨by show 0 ≤ sizeLine; decide, ?_⟩
          intro p0 n_p0
          obtain ⟨H1, e_H1, s1, h2⟩ : ∃ Hz, upd H' p0 (HO.lst []) = Hz ∧ Same H' Hz ∧ Hz p0 = some (HO.lst []) := ⟨_, rfl, same_new n_p0, upd_same⟩
          simp only [e_H1]
          clear e_H1
          refine ⟨_, sqL (s1 _ _ h1), _, sqL h2, flatP_nil _, ?_⟩
          rw [eqLs_nil]
          split
          · rename_i he
            have hne : note1 wi kd v ≠ [] := by
              intro z
              rw [z] at he
              cases he
            rw [if_pos ⟨hk, hv, hne⟩] at k
            refine ⟨tyV_lst (s1 _ _ h1), _, s1 _ _ h1, ?_, ?_⟩
            · refine ⟨_, List.getElem?_eq_getElem ?_⟩
              rw [List.length_map]
              have := List.length_pos_iff.mpr hne
              omega
            · refine k _ (hb.trans ((Same.but s1).trans but_upd)) ?_
              rw [upd_same, List.map_dropLast]
          · rename_i he
            have hne : note1 wi kd v = [] := by
              cases q : note1 wi kd v with
              | nil => rfl
              | cons a b => rw [q] at he; exact absurd rfl he
            rw [if_neg (fun z => z.2.2 hne)] at k
            exact k _ (hb.trans (Same.but s1)) (s1 _ _ h1)
        · rename_i hv
          rw [if_neg (fun z => hv z.2.1)] at k
          exact k _ hb h1
      · rename_i hk
        rw [if_neg (fun z => hk z.1)] at k
        exact k _ hb h1
theorem ok_words_in (M : Md P w K mg base CB) : Ok P w K mg base 8 "words_in" ["text"] (spWordsIn CB) := by
  refine mk M.a_words_in sc_words_in (fun _ _ _ _ _ _ us hl => match us, hl with | [_], _ => rfl) (fun vs H Q E h => ?_) (fun f cdv A outer s H vs Q E hr h => ?_)
  · obtain ⟨t, rfl, _⟩ := h
    rfl
  · obtain ⟨t, rfl, ht, k⟩ := h
    have hz := szl ht
    refine ⟨_, (pss_cons (ps_par3 (i := 1) (j := 2) (l := 3) (by rfl) sc_words_in.nd rfl rfl rfl (by decide) (by decide) (by decide) rfl rfl rfl (pa_cons (pe_lst pa_nil) (pa_cons (pe_lst pa_nil) (pa_cons pe_int pa_nil))) (by rfl))
      (pss_cons (ps_while (passes_of rfl) (pt_cmpR op_lt (pv 3) (pe_callB call_len_str (by rfl) M.g_len PySem.boot_len (pa_cons (pv 0) pa_nil)) (nomark _)) (pss_one (ps_if (pt_cmpR op_in_sign (pe_ix ix_str (pv 0) (pv 3) (fun _ _ => rfl)) (pe_strL [32, 10]) (by rfl)) (pss_one (ps_aug (i := 3) sc_words_in.nd rfl (.inl rfl) pe_int ip_add)) (pss_one (ps_if (pt_cmpR op_eq (pe_ix ix_str (pv 0) (pv 3) (fun _ _ => rfl)) (pe_strL [34]) (nomark _)) (pss_one (ps_asg (pc (ok_comment_end M) (hr.mono (by decide)) (by rfl) psb (pa_cons (pv 0) (pa_cons (pv 3) pa_nil))) (pg_name (i := 3) sc_words_in.nd rfl (.inl rfl)))) (pss_cons (ps_asg (pc (ok_word_at M) (hr.mono (by decide)) (by rfl) psb (pa_cons (pv 0) (pa_cons (pv 3) (pa_cons (pc (ok_may_be_negative M) (hr.mono (by decide)) (by rfl) psb (pa_cons (pv 1) (pa_cons (pv 2) pa_nil))) pa_nil)))) (pg_tup (by rfl) (pgs_cons (pg_name (i := 4) sc_words_in.nd rfl (.inl rfl)) (pgs_cons (pg_name (i := 5) sc_words_in.nd rfl (.inl rfl)) (pgs_cons (pg_name (i := 6) sc_words_in.nd rfl (.inl rfl)) pgs_nil)))))
      (pss_cons (ps_expr (pc (ok_note_sign M) (hr.mono (by decide)) (by rfl) psb (pa_cons (pv 2) (pa_cons (pv 4) (pa_cons (pv 5) pa_nil)))))
      (pss_cons (ps_expr (pe_bm PySem.F.plainAttrs_list PySem.F.slot_list_append PySem.F.type_list_append mt_append (pv 1) (pa_cons (pe_tup (pa_cons (pv 4) (pa_cons (pv 5) (pa_cons (pv 3) pa_nil)))) pa_nil)))
      (pss_one (ps_asg (pv 6) (pg_name (i := 3) sc_words_in.nd rfl (.inl rfl))))))))))))
      (pss_one (ps_ret (pv 1))))), ?_⟩
    show tSeq _ _ _ [some (S t), none, none, none, none, none, none] H
    simp only [L2.tSeq, L2.tRet, L2.tVar, L2.tAnd, L2.tOr, L2.tNot, L2.tTest, L2.tOp, L2.tUn, L2.rU, L2.tCB, L2.tCons, L2.tNil, L2.rIxS, L2.rI0, L2.rI, L2.rEq, L2.rNe, L2.tAug, L2.ipI, L2.tC, L2.tIfS, L2.tIf, L2.tCall, L2.tAsg, L2.gName, L2.tSl, L2.rSlS, L2.tPart, L2.tNoPart, L2.tBM, L2.tBM0, L2.tB, L2.tAndV, L2.tOrV, L2.tNotV, L2.tDrop, L2.tNext, L2.tChain, L2.tPar, L2.tPar3, Cm.tErr, Cm.tGT, L2.tTup, L2.tLst,
  List.getElem?_cons_zero, List.getElem?_cons_succ, Option.some.injEq, exists_eq_left', exists_eq_left, exists_eq', exists_eq, exists_and_left, exists_and_right, exists_const, List.cons.injEq, and_true, true_and, L2.V.str.injEq, L2.V.int.injEq, L2.V.bl.injEq, L2.V.ref.injEq, PySem.Str.mk.injEq, Tx.arr1, Tx.str_len, Tx.at_nat, Tx.cut_nat, Tx.find_one,
  and_assoc, Int.ofNat_inj, Nat.add_sub_cancel_left, Lx.take1_eq, decide_eq_true_eq, Bool.not_eq_true', decide_eq_false_iff_not, Int.ofNat_lt, Int.ofNat_le, Bool.false_eq_true, if_false, if_true, List.set_cons_zero, List.set_cons_succ, List.append_nil, List.nil_append, ↓reduceIte, Cm.nat_succ, Cm.nat_add, Cm.nat_two, List.toList_toArray, not_true, not_false_iff, Cm.toArr_inj, Cm.two_one, Cm.tyV_str, Cm.scal_ss, Cm.scal_ii, Cm.scal_bb, Cm.cb_K, hz]
    refine ⟨by show 0 ≤ sizeLine; decide, ?_⟩
    intro l n_l
    obtain ⟨H1, e_H1, s1, h1⟩ : ∃ Hz, upd H l (HO.lst []) = Hz ∧ Same H Hz ∧ Hz l = some (HO.lst []) := ⟨_, rfl, same_new n_l, upd_same⟩
    simp only [e_H1]
    clear e_H1
    refine ⟨by show 0 ≤ sizeLine; decide, ?_⟩
    intro i n_i
    obtain ⟨H2, e_H2, s2, h2⟩ : ∃ Hz, upd H1 i (HO.lst []) = Hz ∧ Same H1 Hz ∧ Hz i = some (HO.lst []) := ⟨_, rfl, same_new n_i, upd_same⟩
    simp only [e_H2]
    clear e_H2
    have nil' : H i = none := s1.free n_i
    have nli : l ≠ i := ne_of_none h1 n_i
    refine ⟨WInv t l i H, ⟨_, 0, [], [], none, none, none, rfl, s1.trans s2, ⟨[], s2 _ _ h1, .nil⟩, h2, Nat.le_refl _, Nat.le_refl _, Nat.zero_le _, ?_, rfl⟩, ?_⟩
    · unfold lex
      rw [Nat.sub_zero, List.drop_zero]
    rintro m σ H' ⟨a, ws, wi, v4, v5, v6, rfl, sH, hT, hI, hwl, hil, ha, hx, rfl⟩
    simp only [L2.tSeq, L2.tRet, L2.tVar, L2.tAnd, L2.tOr, L2.tNot, L2.tTest, L2.tOp, L2.tUn, L2.rU, L2.tCB, L2.tCons, L2.tNil, L2.rIxS, L2.rI0, L2.rI, L2.rEq, L2.rNe, L2.tAug, L2.ipI, L2.tC, L2.tIfS, L2.tIf, L2.tCall, L2.tAsg, L2.gName, L2.tSl, L2.rSlS, L2.tPart, L2.tNoPart, L2.tBM, L2.tBM0, L2.tB, L2.tAndV, L2.tOrV, L2.tNotV, L2.tDrop, L2.tNext, L2.tChain, L2.tPar, L2.tPar3, Cm.tErr, Cm.tGT, L2.tTup, L2.tLst,
  List.getElem?_cons_zero, List.getElem?_cons_succ, Option.some.injEq, exists_eq_left', exists_eq_left, exists_eq', exists_eq, exists_and_left, exists_and_right, exists_const, List.cons.injEq, and_true, true_and, L2.V.str.injEq, L2.V.int.injEq, L2.V.bl.injEq, L2.V.ref.injEq, PySem.Str.mk.injEq, Tx.arr1, Tx.str_len, Tx.at_nat, Tx.cut_nat, Tx.find_one,
  and_assoc, Int.ofNat_inj, Nat.add_sub_cancel_left, Lx.take1_eq, decide_eq_true_eq, Bool.not_eq_true', decide_eq_false_iff_not, Int.ofNat_lt, Int.ofNat_le, Bool.false_eq_true, if_false, if_true, List.set_cons_zero, List.set_cons_succ, List.append_nil, List.nil_append, ↓reduceIte, Cm.nat_succ, Cm.nat_add, Cm.nat_two, List.toList_toArray, not_true, not_false_iff, Cm.toArr_inj, Cm.two_one, Cm.tyV_str, Cm.scal_ss, Cm.scal_ii, Cm.scal_bb, Cm.cb_K, hz]
    split
    · rename_i hlt
      have ex := List.getElem?_eq_getElem hlt
      rw [lex_step hlt] at hx
      refine ⟨_, fun _ _ z => z, _, ex, ?_⟩
      split
      · rename_i hc
        have hc' : t[a] = 32 ∨ t[a] = 10 := by simpa using hc
        rw [if_pos hc'] at hx
        exact ⟨t.length - (a + 1), by omega, a + 1, ws, wi, v4, v5, v6, rfl, sH, hT, hI, by omega, by omega, by omega, hx, rfl⟩
      · rename_i hc
        have hc' : ¬ (t[a] = 32 ∨ t[a] = 10) := by simpa using hc
        rw [if_neg hc'] at hx
        refine ⟨_, ex, ?_⟩
        split
        · rename_i h34
          rw [if_pos h34] at hx
          refine ⟨t, a, rfl, ht, hlt, ?_⟩
          cases hcl : commentLen (t.drop a) with
          | none =>
            rw [hcl] at hx
            rw [← hx] at k
            exact fun d H3 s3 nd hd => k d H3 (sH.trans s3) (sH.free nd) hd
          | some n =>
            rw [hcl] at hx
            have hle := commentLen_le hcl
            rw [List.length_drop] at hle
            exact ⟨t.length - (a + n), by omega, a + n, ws, wi, v4, v5, v6, rfl, sH, hT, hI, by omega, by omega, by omega, hx, rfl⟩
        · rename_i h34
          rw [if_neg h34] at hx
          refine ⟨l, i, ws, wi, rfl, hT, hI, fun H3 s3 => ?_⟩
          refine ⟨t, a, _, rfl, ht, hlt, ?_⟩
          cases hwa : wordAt (t.drop a) (mayNeg ws wi) with
          | none =>
            rw [hwa] at hx
            rw [← hx] at k
            exact fun d H4 s4 nd hd => k d H4 ((sH.trans s3).trans s4) ((sH.trans s3).free nd) hd
          | some tk =>
            obtain ⟨kd, v, n⟩ := tk
            rw [hwa] at hx
            have hle := wordAt_le hwa
            rw [List.length_drop] at hle
            have hv := wordAt_val hwa
            have fv : flatV v = true := by rcases hv with ⟨z, rfl⟩ | ⟨z, rfl⟩ <;> rfl
            have sv : ∀ l, scal v (S l) = true := by rcases hv with ⟨z, rfl⟩ | ⟨z, rfl⟩ <;> (intro _; rfl)
            intro q H4 s4 nq hq
            refine ⟨q, _, rfl, sqT hq, rfl, _, _, rfl, _, _, rfl, _, _, rfl, rfl, ?_⟩
            have s34 := s3.trans s4
            refine ⟨_, rfl, _, rfl, _, rfl, i, wi, kd, v, rfl, fv, sv, s34 _ _ hI, by omega, fun H5 b5 h5 => ?_⟩
            obtain ⟨ps, hl, pw⟩ := hT
            have hl5 : H5 l = some (.lst (ps.map V.ref)) := b5 _ _ nli (s34 _ _ hl)
            refine ⟨_, rfl, tyV_lst hl5, _, rfl, _, rfl, _, rfl, by show 3 ≤ sizeLine; decide, ?_⟩
            intro q2 n_q2
            obtain ⟨H6, e_H6, s6, h6⟩ : ∃ Hz, upd H5 q2 (HO.tup [S kd, v, .int a]) = Hz ∧ Same H5 Hz ∧ Hz q2 = some (HO.tup [S kd, v, .int a]) := ⟨_, rfl, same_new n_q2, upd_same⟩
            simp only [e_H6]
            clear e_H6
            have hpl : ps.length = ws.length := Paired.length pw
            refine ⟨l, _, _, rfl, rfl, s6 _ _ hl5, by rw [List.length_map]; exact Nat.lt_of_le_of_lt (show ps.length ≤ 100000 by omega) (by decide), ?_⟩
            obtain ⟨H7, e_H7, b7, h7⟩ : ∃ Hz, upd H6 l (HO.lst (ps.map V.ref ++ [V.ref q2])) = Hz ∧ But l H6 Hz ∧ Hz l = some (HO.lst (ps.map V.ref ++ [V.ref q2])) := ⟨_, rfl, but_upd, upd_same⟩
            simp only [e_H7]
            clear e_H7
            refine ⟨_, rfl, ?_⟩
            have hkeep : ∀ b o, b ≠ l → b ≠ i → H' b = some o → H7 b = some o := fun b o n1 n2 e => b7 _ _ n1 (s6 _ _ (b5 _ _ n2 (s34 _ _ e)))
            have nl : H l = none := n_l
            refine ⟨t.length - (a + n), by omega, a + n, ws ++ [(kd, v, a)], noteSign wi kd v, _, _, _, rfl, ?_, ?_, ?_, ?_, ?_, by omega, hx, rfl⟩
            · exact fun b o e => hkeep b o (ne_of_none e nl) (ne_of_none e nil') (sH _ _ e)
            · refine ⟨ps ++ [q2], by rw [h7, List.map_append]; rfl, paired_snoc (Cm.Paired.imp (fun p tk h => ?_) pw) ?_⟩
              · obtain ⟨e1, e2, e3⟩ := h
                refine ⟨hkeep _ _ ?_ ?_ e1, e2, e3⟩
                · exact ne_of e1 hl (by intro z; cases z)
                · exact ne_of e1 hI (by intro z; cases z)
              · have nq2 : q2 ≠ l := fun z => by
                  rw [z, hl5] at n_q2
                  cases n_q2
                exact ⟨b7 _ _ nq2 h6, fv, sv⟩
            · exact b7 _ _ (Ne.symm nli) (s6 _ _ h5)
            · rw [List.length_append]
              simp only [List.length_cons, List.length_nil]
              omega
            · have := noteSign_len wi kd v
              omega
    · rename_i hlt
      rw [lex_end (by omega)] at hx
      rw [← hx] at k
      exact k l H' sH n_l hT
end
end W
namespace W
open PySem PySem.Spec PyProof.Rows L2 Cm Lx
def okc (c : Nat) : Bool := (decide (32 ≤ c) && decide (c ≤ 126)) || decide (c = 10)
def spIsW (K : PySem.W.Frag) : Sp := fun vs H Q _ => ∃ v, vs = [v] ∧ ((∃ t, v = S t ∧ BT t ∧ ∀ H', Same H H' → Q (.bl (t.all okc)) H') ∨ ∃ T, TyX K H v (.type T) ∧ kitB T "str" = some false ∧ Q (.bl false) H)
def lexRes (CB : Addr) (H : Hp) (Q : VK) (E : XK) : Except Int Toks → Prop
  | .ok ws => ∀ l H', Same H H' → H l = none → ToksAt H' l ws → Q (.ref l) H'
  | .error p => ∀ d H', Same H H' → H d = none → H' d = some (.xd [("place", .int p)]) → E (.ref CB) (some d) H'
def wordsOf (t : List Nat) : Except Int Toks := if t.all okc = true ∧ t.length ≤ 2000 then (match lex t with
  | .ok ws => .ok ws
  | .error p => .error (p : Int)) else .error (-1)
def spWordsOf (K : PySem.W.Frag) (CB : Addr) : Sp := fun vs H Q E => ∃ v, vs = [v] ∧ ((∃ t, v = S t ∧ BT t ∧ lexRes CB H Q E (wordsOf t)) ∨ ∃ T, TyX K H v (.type T) ∧ kitB T "str" = some false ∧ lexRes CB H Q E (.error (-1)))
theorem lt1 {a b : Nat} : ([a] : List Nat) < [b] ↔ a < b := by simp [List.cons_lt_cons_iff]
section
variable {P : Program} {w : World} {K : PySem.W.Frag} {mg : Str → Option Value} {base : Heap} {CB : Addr}
theorem ok_is_written (M : Md P w K mg base CB) : Ok P w K mg base 1 "is_written" ["thing"] (spIsW K) := by
  refine mk M.a_is_written sc_is_written (fun _ _ _ _ _ _ us hl => match us, hl with | [_], _ => rfl) (fun vs H Q E h => ?_) (fun f cdv A outer s H vs Q E hr h => ?_)
  · obtain ⟨v, rfl, _⟩ := h
    rfl
  · obtain ⟨v, rfl, h⟩ := h
    refine ⟨_, (pss_one (ps_ret (pe_and (pe_callB call_isi (by rfl) M.g_isinstance (by decide +kernel) (pa_cons (pv 0) (pa_cons (pe_bltn (v := .ty "str") (by rfl) M.g_str (by decide +kernel) rfl) pa_nil))) (pe_one (pe_callB (cr_all rfl) (by rfl) M.g_all (by decide +kernel) (pa_cons (pe_lc (own := [("sign", 1)]) (g := (gName 1)) (by rfl) sc_is_written.nd (pi_str (pv 0)) (blkOk_by (own := [("sign", 1)]) (N := ["thing", "sign"]) (sc := defScope s_is_written) (by decide +kernel)) (fun _ _ _ _ _ => pg_name (i := 1) sc_is_written.nd rfl (Or.inl rfl)) (fun _ _ _ _ _ => pts_nil) (fun _ _ _ _ _ => (pe_or (pe_chain op_le_str op_le_str (pe_strL [32]) (pv 1) (pe_strL [126])) (pe_one (pe_cmpR op_eq (pv 1) (pe_strL [10]) (nomark _)))))) pa_nil)))))), ?_⟩
    show tRet _ _ [some v, none] H
    refine ⟨_, rfl, ?_⟩
    rcases h with ⟨t, rfl, ht, k⟩ | ⟨T, hT, hk, k⟩
    · have hz := szl ht
      refine ⟨_, _, _, _, true, rfl, .ty "str", .base (.str _), kit_ty (a := "str") (by decide +kernel), _, rfl, ?_⟩
      refine iteT ?_
      refine ⟨_, rfl, _, rfl, fun D hD => lc_it walk_str (fun i H' => Same H H' ∧ H' D = some (.lst ((t.take i).map fun c => V.bl (okc c)))) ⟨same_new hD, upd_same⟩ (fun _ _ _ _ => trivial) ?_ ?_⟩
      · rintro i x H1 H2 hi ⟨s1, h1⟩ ⟨rfl, c, hc, rfl⟩
        have hc' : t[i]? = some c := by simpa using hc
        have hil : i < t.length := (List.getElem?_eq_some_iff.mp hc').1
        refine ⟨rfl, ?_⟩
        have ew : (List.set (wipe [some (S t), none] (List.map (fun x => x.snd) [((Str.ofString "sign" : Str), 1)])) 1 (some (V.str ⟨#[c]⟩))) = [some (S t), some (V.str ⟨#[c]⟩)] := rfl
        have fin : ∀ b : Bool, b = okc c → ∃ acc, H2 D = some (.lst acc) ∧ acc.length < sizeLine ∧ Same H (upd H2 D (.lst (acc ++ [V.bl b]))) ∧ upd H2 D (.lst (acc ++ [V.bl b])) D = some (.lst ((t.take (i + 1)).map fun c => V.bl (okc c))) := fun b hb => by
          refine ⟨_, h1, ?_, ?_, ?_⟩
          · rw [List.length_map, List.length_take]
            exact Nat.lt_of_le_of_lt (show min i t.length ≤ 100000 by omega) (by decide)
          · exact fun b o e => by
              rw [upd_ne (ne_of_none e hD)]
              exact s1 _ _ e
          · rw [upd_same, hb, List.take_add_one, hc', List.map_append]
            rfl
        simp only [L2.tSeq, L2.tRet, L2.tVar, L2.tAnd, L2.tOr, L2.tNot, L2.tTest, L2.tOp, L2.tUn, L2.rU, L2.tCB, L2.tCons, L2.tNil, L2.rIxS, L2.rI0, L2.rI, L2.rEq, L2.rNe, L2.tAug, L2.ipI, L2.tC, L2.tIfS, L2.tIf, L2.tCall, L2.tAsg, L2.gName, L2.tSl, L2.rSlS, L2.tPart, L2.tNoPart, L2.tBM, L2.tBM0, L2.tB, L2.tAndV, L2.tOrV, L2.tNotV, L2.tDrop, L2.tNext, L2.tChain, L2.tPar, L2.tPar3, Cm.tErr, Cm.tGT, L2.tTup, L2.tLst,
  List.getElem?_cons_zero, List.getElem?_cons_succ, Option.some.injEq, exists_eq_left', exists_eq_left, exists_eq', exists_eq, exists_and_left, exists_and_right, exists_const, List.cons.injEq, and_true, true_and, L2.V.str.injEq, L2.V.int.injEq, L2.V.bl.injEq, L2.V.ref.injEq, PySem.Str.mk.injEq, Tx.arr1, Tx.str_len, Tx.at_nat, Tx.cut_nat, Tx.find_one,
  and_assoc, Int.ofNat_inj, Nat.add_sub_cancel_left, Lx.take1_eq, decide_eq_true_eq, Bool.not_eq_true', decide_eq_false_iff_not, Int.ofNat_lt, Int.ofNat_le, Bool.false_eq_true, if_false, if_true, List.set_cons_zero, List.set_cons_succ, List.append_nil, List.nil_append, ↓reduceIte, Cm.nat_succ, Cm.nat_add, Cm.nat_two, List.toList_toArray, not_true, not_false_iff, Cm.toArr_inj, Cm.two_one, Cm.tyV_str, Cm.scal_ss, Cm.scal_ii, Cm.scal_bb, Cm.cb_K, lt1, tYes, ew]
        unfold okc at fin
        split
        · rename_i h32
          split
          · rename_i h126
            refine fin true ?_
            rw [decide_eq_true (show 32 ≤ c by omega), decide_eq_true (show c ≤ 126 by omega)]
            rfl
          · rename_i h126
            refine fin _ ?_
            rw [decide_eq_false (show ¬ c ≤ 126 by omega), Bool.and_false, Bool.false_or]
        · rename_i h32
          refine fin _ ?_
          rw [decide_eq_false (show ¬ 32 ≤ c by omega), Bool.false_and, Bool.false_or]
      · rintro H1 ⟨s1, h1⟩
        have e : List.take (⟨t.toArray⟩ : Str).cps.size t = t := List.take_of_length_le (by simp)
        rw [e] at h1
        refine ⟨D, t.map okc, rfl, sqL (by rw [h1, List.map_map]; rfl), ?_⟩
        have e2 : (t.map okc).all id = t.all okc := by rw [List.all_map]; rfl
        rw [e2]
        exact k H1 s1
    · refine ⟨_, _, _, _, false, rfl, .ty "str", hT, kit_ty hk, _, rfl, ?_⟩
      exact iteF k
theorem ok_words_of (M : Md P w K mg base CB) : Ok P w K mg base 9 "words_of" ["source"] (spWordsOf K CB) := by
  refine mk M.a_words_of sc_words_of (fun _ _ _ _ _ _ us hl => match us, hl with | [_], _ => rfl) (fun vs H Q E h => ?_) (fun f cdv A outer s H vs Q E hr h => ?_)
  · obtain ⟨v, rfl, _⟩ := h
    rfl
  · obtain ⟨v, rfl, h⟩ := h
    refine ⟨_, (pss_cons (ps_if (PW.pt (pw_or (pt_not (pt_val (pc (ok_is_written M) (hr.mono (by decide)) (by rfl) psb (pa_cons (pv 0) pa_nil)))) (pw_or1 (pt_cmpR op_gt (pe_callB call_len_str (by rfl) M.g_len PySem.boot_len (pa_cons (pv 0) pa_nil)) (pn_int (by rfl) M.c_MOST_SIGNS) (nomark _))))) (pss_one (ps_raise rfl tkb (pmk1 M.x_BadSource hr (by rfl) (pe_un un_neg pe_int)))) pss_nil)
      (pss_one (ps_ret (pc (ok_words_in M) (hr.mono (by decide)) (by rfl) psb (pa_cons (pv 0) pa_nil))))), ?_⟩
    show tSeq _ _ _ [some v] H
    simp only [L2.tSeq, L2.tRet, L2.tVar, L2.tAnd, L2.tOr, L2.tNot, L2.tTest, L2.tOp, L2.tUn, L2.rU, L2.tCB, L2.tCons, L2.tNil, L2.rIxS, L2.rI0, L2.rI, L2.rEq, L2.rNe, L2.tAug, L2.ipI, L2.tC, L2.tIfS, L2.tIf, L2.tCall, L2.tAsg, L2.gName, L2.tSl, L2.rSlS, L2.tPart, L2.tNoPart, L2.tBM, L2.tBM0, L2.tB, L2.tAndV, L2.tOrV, L2.tNotV, L2.tDrop, L2.tNext, L2.tChain, L2.tPar, L2.tPar3, Cm.tErr, Cm.tGT, L2.tTup, L2.tLst,
  List.getElem?_cons_zero, List.getElem?_cons_succ, Option.some.injEq, exists_eq_left', exists_eq_left, exists_eq', exists_eq, exists_and_left, exists_and_right, exists_const, List.cons.injEq, and_true, true_and, L2.V.str.injEq, L2.V.int.injEq, L2.V.bl.injEq, L2.V.ref.injEq, PySem.Str.mk.injEq, Tx.arr1, Tx.str_len, Tx.at_nat, Tx.cut_nat, Tx.find_one,
  and_assoc, Int.ofNat_inj, Nat.add_sub_cancel_left, Lx.take1_eq, decide_eq_true_eq, Bool.not_eq_true', decide_eq_false_iff_not, Int.ofNat_lt, Int.ofNat_le, Bool.false_eq_true, if_false, if_true, List.set_cons_zero, List.set_cons_succ, List.append_nil, List.nil_append, ↓reduceIte, Cm.nat_succ, Cm.nat_add, Cm.nat_two, List.toList_toArray, not_true, not_false_iff, Cm.toArr_inj, Cm.two_one, Cm.tyV_str, Cm.scal_ss, Cm.scal_ii, Cm.scal_bb, Cm.cb_K]
    rcases h with ⟨t, rfl, ht, k⟩ | ⟨T, hT, hk, k⟩
    · have hz := szl ht
      refine ⟨_, rfl, .inl ⟨t, rfl, ht, fun H1 s1 => ⟨_, rfl, ?_⟩⟩⟩
      unfold wordsOf at k
      split
      · rename_i hc
        rw [if_neg (fun z => by rw [hc] at z; exact Bool.false_ne_true z.1)] at k
        exact fun d nd => k d _ (s1.trans (same_new nd)) (s1.free nd) upd_same
      · rename_i hc
        have hc' : t.all okc = true := by simpa using hc
        refine ⟨_, rfl, hz, ?_⟩
        split
        · rename_i hl
          rw [if_neg (fun z => by have h2 := z.2; rw [Tx.str_len] at hl; omega)] at k
          exact fun d nd => k d _ (s1.trans (same_new nd)) (s1.free nd) upd_same
        · rename_i hl
          rw [if_pos ⟨hc', by rw [Tx.str_len] at hl; omega⟩] at k
          refine ⟨t, rfl, ht, ?_⟩
          cases q : lex t with
          | ok ws =>
            rw [q] at k
            exact fun l H2 s2 nl hT => k l H2 (s1.trans s2) (s1.free nl) hT
          | error p =>
            rw [q] at k
            exact fun d H2 s2 nd hd => k d H2 (s1.trans s2) (s1.free nd) hd
    · refine ⟨_, rfl, .inr ⟨T, hT, hk, _, rfl, ?_⟩⟩
      rw [if_pos rfl]
      exact fun d nd => k d _ (same_new nd) nd upd_same
end
end W
namespace W
open PySem PySem.Spec PyProof.Rows L2 Cm Lx
abbrev s__law_bag : Stmt := topS 36
theorem sc__law_bag : FnScope ["_law_script", "_law_k", "_law_cell"] ["_law_script", "_law_k"] (defScope s__law_bag) := ⟨rfl, rfl, rfl, by decide +kernel, rfl, by decide +kernel, by decide +kernel⟩
abbrev s__law_take : Stmt := topS 37
theorem sc__law_take : FnScope ["_law_bag_here", "_law_many", "_law_found", "_law_mark"] ["_law_bag_here", "_law_many"] (defScope s__law_take) := ⟨rfl, rfl, rfl, by decide +kernel, rfl, by decide +kernel, by decide +kernel⟩
abbrev s__law_pick : Stmt := topS 38
theorem sc__law_pick : FnScope ["_law_bag_here", "_law_things"] ["_law_bag_here", "_law_things"] (defScope s__law_pick) := ⟨rfl, rfl, rfl, by decide +kernel, rfl, by decide +kernel, by decide +kernel⟩
structure Mb (K : PySem.W.Frag) (mg : Str → Option Value) : Prop where
  a__law_bag : At K mg "_law_bag" s__law_bag
  a__law_take : At K mg "_law_take" s__law_take
  a__law_pick : At K mg "_law_pick" s__law_pick
  g_len : mg "len" = none
  g_max : mg "max" = none
  g_int : mg "int" = none
  g_sum : mg "sum" = none
def spBag (K : PySem.W.Frag) : Sp := fun vs H Q _ => ∃ (a : Addr) (ns : List Int) (k : Int), vs = [.ref a, .int k] ∧ SqL K H a (ns.map V.int) ∧ 0 ≤ k ∧ k ≤ 1000 ∧
  ∀ p H' A B, Same H H' → H p = none → H' p = some (.lst [.int A, .int B, .int (61 * k)]) → 0 ≤ B → B < 10 ^ 41 → Q (.ref p) H'
def spTake : Sp := fun vs H Q _ => ∃ (p : Addr) (A B C many : Int), vs = [.ref p, .int many] ∧ H p = some (.lst [.int A, .int B, .int C]) ∧ 0 ≤ B ∧ B < 10 ^ 41 ∧ 0 ≤ C ∧ C ≤ 10 ^ 9 ∧ 0 < many ∧ many ≤ 10 ^ 8 ∧
  ∀ n A' C' H', But p H H' → H' p = some (.lst [.int A', .int B, .int C']) → 0 ≤ n → n < many → C ≤ C' → C' ≤ C + 1 → Q (.int n) H'
section
variable {P : Program} {w : World} {K : PySem.W.Frag} {mg : Str → Option Value} {base : Heap}
theorem ok__law_bag (M : Mb K mg) : Ok P w K mg base 1 "_law_bag" ["_law_script", "_law_k"] (spBag K) := by
  refine mk M.a__law_bag sc__law_bag (fun _ _ _ _ _ _ us hl => match us, hl with | [_, _], _ => rfl) (fun vs H Q E h => ?_) (fun f cdv A outer s H vs Q E hr h => ?_)
  · obtain ⟨a, ns, k, rfl, _⟩ := h
    rfl
  · obtain ⟨a, ns, k, rfl, hs, hk0, hk1, kk⟩ := h
    refine ⟨_, (pss_cons (ps_asg (pe_op op_modN (pe_callTy call_intI (by rfl) M.g_int (by decide +kernel) (pa_cons (pe_callB (cr_sum rfl) (by rfl) M.g_sum (by decide +kernel) (pa_cons (pe_slice sl_list (pv 0) po_none (po_some pe_int)) pa_nil)) pa_nil)) pe_int) (pg_name (i := 2) sc__law_bag.nd rfl (.inl rfl)))
      (pss_cons (ps_if (pt_cmpR op_lt (pv 1) (pe_callB call_len_seq (by rfl) M.g_len PySem.boot_len (pa_cons (pv 0) pa_nil)) (nomark _)) (pss_one (ps_asg (pe_ix ix_list (pv 0) (pv 1) (fun _ _ => rfl)) (pg_name (i := 2) sc__law_bag.nd rfl (.inl rfl)))) pss_nil)
      (pss_one (ps_ret (pe_lst (pa_cons (pe_callB (call_max2 rfl) (by rfl) M.g_max (by decide +kernel) (pa_cons pe_int (pa_cons (pe_op op_sub (pv 2) (pe_op op_pow pe_int pe_int)) pa_nil))) (pa_cons (pe_op op_modN (pe_callTy call_intI (by rfl) M.g_int (by decide +kernel) (pa_cons (pv 2) pa_nil)) (pe_op op_add (pe_op op_pow pe_int pe_int) pe_int)) (pa_cons (pe_op op_mulW pe_int (pv 1)) pa_nil)))))))), ?_⟩
    show tSeq _ _ _ [some (.ref a), some (.int k), none] H
    simp only [L2.tSeq, L2.tRet, L2.tVar, L2.tAnd, L2.tOr, L2.tNot, L2.tTest, L2.tOp, L2.tUn, L2.rU, L2.tCB, L2.tCons, L2.tNil, L2.rIxS, L2.rI0, L2.rI, L2.rEq, L2.rNe, L2.tAug, L2.ipI, L2.tC, L2.tIfS, L2.tIf, L2.tCall, L2.tAsg, L2.gName, L2.tSl, L2.rSlS, L2.tPart, L2.tNoPart, L2.tBM, L2.tBM0, L2.tB, L2.tAndV, L2.tOrV, L2.tNotV, L2.tDrop, L2.tNext, L2.tChain, L2.tPar, L2.tPar3, Cm.tErr, Cm.tGT, L2.tTup, L2.tLst,
  List.getElem?_cons_zero, List.getElem?_cons_succ, Option.some.injEq, exists_eq_left', exists_eq_left, exists_eq', exists_eq, exists_and_left, exists_and_right, exists_const, List.cons.injEq, and_true, true_and, L2.V.str.injEq, L2.V.int.injEq, L2.V.bl.injEq, L2.V.ref.injEq, PySem.Str.mk.injEq, Tx.arr1, Tx.str_len, Tx.at_nat, Tx.cut_nat, Tx.find_one,
  and_assoc, Int.ofNat_inj, Nat.add_sub_cancel_left, Lx.take1_eq, decide_eq_true_eq, Bool.not_eq_true', decide_eq_false_iff_not, Int.ofNat_lt, Int.ofNat_le, Bool.false_eq_true, if_false, if_true, List.set_cons_zero, List.set_cons_succ, List.append_nil, List.nil_append, ↓reduceIte, Cm.nat_succ, Cm.nat_add, Cm.nat_two, List.toList_toArray, not_true, not_false_iff, Cm.toArr_inj, Cm.two_one, Cm.tyV_str, Cm.scal_ss, Cm.scal_ii, Cm.scal_bb, Cm.cb_K, reduceCtorEq, false_and, exists_false, or_false, false_or, List.map_cons, List.map_nil, rSlL, rSum, rIxL]
    refine ⟨_, hs, ?_⟩
    intro p0 n_p0
    obtain ⟨H1, e_H1, s1, h1⟩ : ∃ Hz, upd H p0 (HO.lst (cutV (ns.map V.int) none (some 1))) = Hz ∧ Same H Hz ∧ Hz p0 = some (HO.lst (cutV (ns.map V.int) none (some 1))) := ⟨_, rfl, same_new n_p0, upd_same⟩
    simp only [e_H1]
    clear e_H1
    have e1 : cutV (ns.map V.int) none (some 1) = (ns.take 1).map V.int := by rw [show (1 : Int) = ((1 : Nat) : Int) from rfl, cutV_to, List.map_take]
    rw [e1] at h1
    have hs1 := s1.seq hs
    have fin : ∀ cell : Int, CPow 10 18 ∧ CPow 10 40 ∧ (10 ^ Int.toNat 40 + 121 : Int) ≠ 0 ∧ CMulW 61 k ∧ [V.int (if cell - 10 ^ Int.toNat 18 > 0 then cell - 10 ^ Int.toNat 18 else 0), V.int (cell.fmod (10 ^ Int.toNat 40 + 121)), V.int (61 * k)].length ≤ sizeLine ∧
        ∀ p, H1 p = none → Q (.ref p) (upd H1 p (.lst [V.int (if cell - 10 ^ Int.toNat 18 > 0 then cell - 10 ^ Int.toNat 18 else 0), V.int (cell.fmod (10 ^ Int.toNat 40 + 121)), V.int (61 * k)])) := fun cell => by
      refine ⟨⟨by decide, by decide, by decide⟩, ⟨by decide, by decide, by decide⟩, by decide, wide_mul (a := 10) (b := 12) (by decide) (by omega) (by decide) (by decide) (by decide), by show 3 ≤ sizeLine; decide, fun p hp => ?_⟩
      exact kk p _ _ _ (s1.trans (same_new hp)) (s1.free hp) upd_same (fmod_nn (by decide)) (Int.lt_of_lt_of_le (fmod_ub (by decide)) (by decide))
    refine ⟨_, sqL h1, by decide, _, .inl hs1, ?_⟩
    split
    · rename_i hlt
      rw [List.length_map] at hlt
      obtain ⟨m, rfl⟩ : ∃ m : Nat, k = (m : Int) := ⟨k.toNat, by omega⟩
      have hm : m < ns.length := by omega
      obtain ⟨a1, a2, a3, a4, a5, a6⟩ := fin ns[m]
      exact ⟨_, hs1, V.int ns[m], by rw [Tx.at_nat, List.getElem?_map, List.getElem?_eq_getElem hm]; rfl, a1, _, rfl, _, rfl, a2, a3, a4, a5, a6⟩
    · exact fin _
theorem ok__law_take (M : Mb K mg) : Ok P w K mg base 1 "_law_take" ["_law_bag_here", "_law_many"] spTake := by
  refine mk M.a__law_take sc__law_take (fun _ _ _ _ _ _ us hl => match us, hl with | [_, _], _ => rfl) (fun vs H Q E h => ?_) (fun f cdv A outer s H vs Q E hr h => ?_)
  · obtain ⟨p, A, B, C, many, rfl, _⟩ := h
    rfl
  · obtain ⟨p, A, B, C, many, rfl, hb, b0, b1, c0, c1, m0, m1, kk⟩ := h
    refine ⟨_, (pss_cons (ps_if (pt_cmpR op_gt (pe_ix ix_list (pv 0) pe_int (fun _ _ => rfl)) pe_int (nomark _)) (pss_cons (ps_asg (pe_op op_modN (pe_callTy call_intI (by rfl) M.g_int (by decide +kernel) (pa_cons (pe_ix ix_list (pv 0) pe_int (fun _ _ => rfl)) pa_nil)) (pv 1)) (pg_name (i := 2) sc__law_take.nd rfl (.inl rfl)))
      (pss_cons (ps_asg (pe_op op_fdivW (pe_ix ix_list (pv 0) pe_int (fun _ _ => rfl)) (pv 1)) (pg_sub (pv 0) pe_int set_list))
      (pss_one (ps_ret (pv 2))))) pss_nil)
      (pss_cons (ps_asg (pe_op op_add (pe_ix ix_list (pv 0) pe_int (fun _ _ => rfl)) pe_int) (pg_sub (pv 0) pe_int set_list))
      (pss_cons (ps_asg (pe_op op_add (pe_op op_mulW (pe_op op_add (pe_ix ix_list (pv 0) pe_int (fun _ _ => rfl)) pe_int) (pe_op op_add (pe_op op_mulW pe_int (pe_ix ix_list (pv 0) pe_int (fun _ _ => rfl))) pe_int)) (pe_op op_mulW (pe_op op_mulW pe_int (pe_ix ix_list (pv 0) pe_int (fun _ _ => rfl))) (pe_ix ix_list (pv 0) pe_int (fun _ _ => rfl)))) (pg_name (i := 3) sc__law_take.nd rfl (.inl rfl)))
      (pss_cons (ps_asg (pe_op op_modN (pe_callTy call_intI (by rfl) M.g_int (by decide +kernel) (pa_cons (pe_op op_mulW (pv 3) (pv 3)) pa_nil)) (pe_op op_add (pe_op op_pow pe_int pe_int) pe_int)) (pg_name (i := 3) sc__law_take.nd rfl (.inl rfl)))
      (pss_cons (ps_asg (pe_op op_modN (pe_callTy call_intI (by rfl) M.g_int (by decide +kernel) (pa_cons (pe_op op_mulW (pv 3) (pe_op op_add (pv 3) pe_int)) pa_nil)) (pe_op op_add (pe_op op_pow pe_int pe_int) pe_int)) (pg_name (i := 3) sc__law_take.nd rfl (.inl rfl)))
      (pss_one (ps_ret (pe_op op_modN (pe_callTy call_intI (by rfl) M.g_int (by decide +kernel) (pa_cons (pe_op op_fdivW (pv 3) pe_int) pa_nil)) (pv 1))))))))), ?_⟩
    show tSeq _ _ _ [some (.ref p), some (.int many), none, none] H
    simp only [L2.tSeq, L2.tRet, L2.tVar, L2.tAnd, L2.tOr, L2.tNot, L2.tTest, L2.tOp, L2.tUn, L2.rU, L2.tCB, L2.tCons, L2.tNil, L2.rIxS, L2.rI0, L2.rI, L2.rEq, L2.rNe, L2.tAug, L2.ipI, L2.tC, L2.tIfS, L2.tIf, L2.tCall, L2.tAsg, L2.gName, L2.tSl, L2.rSlS, L2.tPart, L2.tNoPart, L2.tBM, L2.tBM0, L2.tB, L2.tAndV, L2.tOrV, L2.tNotV, L2.tDrop, L2.tNext, L2.tChain, L2.tPar, L2.tPar3, Cm.tErr, Cm.tGT, L2.tTup, L2.tLst,
  List.getElem?_cons_zero, List.getElem?_cons_succ, Option.some.injEq, exists_eq_left', exists_eq_left, exists_eq', exists_eq, exists_and_left, exists_and_right, exists_const, List.cons.injEq, and_true, true_and, L2.V.str.injEq, L2.V.int.injEq, L2.V.bl.injEq, L2.V.ref.injEq, PySem.Str.mk.injEq, Tx.arr1, Tx.str_len, Tx.at_nat, Tx.cut_nat, Tx.find_one,
  and_assoc, Int.ofNat_inj, Nat.add_sub_cancel_left, Lx.take1_eq, decide_eq_true_eq, Bool.not_eq_true', decide_eq_false_iff_not, Int.ofNat_lt, Int.ofNat_le, Bool.false_eq_true, if_false, if_true, List.set_cons_zero, List.set_cons_succ, List.append_nil, List.nil_append, ↓reduceIte, Cm.nat_succ, Cm.nat_add, Cm.nat_two, List.toList_toArray, not_true, not_false_iff, Cm.toArr_inj, Cm.two_one, Cm.tyV_str, Cm.scal_ss, Cm.scal_ii, Cm.scal_bb, Cm.cb_K, reduceCtorEq, false_and, exists_false, or_false, false_or, List.map_cons, List.map_nil, rSlL, rSum, rIxL, gSub, rSetL]
    refine ⟨_, sqL hb, V.int A, rfl, A, rfl, ?_⟩
    split
    · rename_i hA
      refine ⟨_, sqL hb, V.int A, rfl, A, rfl, by omega, _, sqL hb, V.int A, rfl, A, rfl, wide_div m0 (b := 27) (by omega) (by decide) (by decide), _, hb, 0, rfl, ?_⟩
      exact kk _ _ C _ but_upd upd_same (fmod_nn m0) (fmod_ub m0) (Int.le_refl _) (by omega)
    · rename_i hA
      refine ⟨_, sqL hb, V.int C, rfl, C, rfl, _, hb, 2, rfl, ?_⟩
      obtain ⟨H1, e_H1, s1, h1⟩ : ∃ Hz, upd H p (HO.lst ([V.int A, V.int B, V.int C].set 2 (V.int (C + 1)))) = Hz ∧ But p H Hz ∧ Hz p = some (HO.lst ([V.int A, V.int B, V.int C].set 2 (V.int (C + 1)))) := ⟨_, rfl, but_upd, upd_same⟩
      simp only [e_H1]
      clear e_H1
      have h1' : H1 p = some (.lst [.int A, .int B, .int (C + 1)]) := h1
      have d1 : (C + 1).natAbs < 2 ^ 31 := by omega
      have d2 : (30011 * (C + 1) + 7).natAbs < 2 ^ 46 := by omega
      have d3 : (104729 * (C + 1)).natAbs < 2 ^ 48 := by omega
      have d4 : (B + 1).natAbs < 2 ^ 137 := by omega
      have m1 := wide_lt d4 d2
      have m2 := wide_lt d3 d1
      have m3 : ((B + 1) * (30011 * (C + 1) + 7) + 104729 * (C + 1) * (C + 1)).natAbs < 2 ^ 200 := by
        have t := Int.natAbs_add_le ((B + 1) * (30011 * (C + 1) + 7)) (104729 * (C + 1) * (C + 1))
        have q1 : (2 : Nat) ^ (137 + 46) + 2 ^ (48 + 31) ≤ 2 ^ 200 := by decide
        omega
      refine ⟨_, sqL h1', V.int B, rfl, B, rfl, _, sqL h1', V.int (C + 1), rfl, C + 1, rfl, wide_mul (a := 15) (by decide) d1 (by decide) (by decide) (by decide), wide_mul d4 d2 (by decide) (by decide) (by decide), _, sqL h1', V.int (C + 1), rfl, C + 1, rfl, wide_mul (a := 17) (by decide) d1 (by decide) (by decide) (by decide),
        _, sqL h1', V.int (C + 1), rfl, C + 1, rfl, wide_mul d3 d1 (by decide) (by decide) (by decide), ?_⟩
      generalize (B + 1) * (30011 * (C + 1) + 7) + 104729 * (C + 1) * (C + 1) = x at m3 ⊢
      refine ⟨wide_mul m3 m3 (by decide) (by decide) (by decide), ⟨by decide, by decide, by decide⟩, by decide, ?_⟩
      have y0 : 0 ≤ (x * x).fmod (10 ^ Int.toNat 41 + 37) := fmod_nn (by decide)
      have y1 : (x * x).fmod (10 ^ Int.toNat 41 + 37) < 10 ^ Int.toNat 41 + 37 := fmod_ub (by decide)
      generalize (x * x).fmod (10 ^ Int.toNat 41 + 37) = y at y0 y1 ⊢
      have y2 : y < 10 ^ 42 := Int.lt_trans y1 (by decide)
      refine ⟨wide_mul (a := 150) (b := 150) (by omega) (by omega) (by decide) (by decide) (by decide), ⟨by decide, by decide, by decide⟩, by decide, wide_div (by decide) (b := 20) (by decide) (by decide) (by decide), by omega, ?_⟩
      exact kk _ A _ _ s1 h1' (fmod_nn m0) (fmod_ub m0) (by omega) (Int.le_refl _)
def spPick (K : PySem.W.Frag) : Sp := fun vs H Q _ => ∃ (p c : Addr) (A B C : Int) (xs : List V), vs = [.ref p, .ref c] ∧ H p = some (.lst [.int A, .int B, .int C]) ∧ 0 ≤ B ∧ B < 10 ^ 41 ∧ 0 ≤ C ∧ C ≤ 10 ^ 9 ∧ SqL K H c xs ∧ c ≠ p ∧ 0 < xs.length ∧ xs.length ≤ 100000 ∧
  ∀ (i : Nat) x A' C' H', But p H H' → H' p = some (.lst [.int A', .int B, .int C']) → xs[i]? = some x → C ≤ C' → C' ≤ C + 1 → Q x H'
theorem but_seq {K : PySem.W.Frag} {p a : Addr} {H H' : Hp} {xs : List V} (b : But p H H') (n : a ≠ p) (h : SqL K H a xs) : SqL K H' a xs := by
  rcases h with (h | ⟨o, h⟩) | h
  · exact .inl (.inl (b _ _ n h))
  · exact .inl (.inr ⟨o, b _ _ n h⟩)
  · exact .inr h
theorem ok__law_pick (M : Mb K mg) : Ok P w K mg base 2 "_law_pick" ["_law_bag_here", "_law_things"] (spPick K) := by
  refine mk M.a__law_pick sc__law_pick (fun _ _ _ _ _ _ us hl => match us, hl with | [_, _], _ => rfl) (fun vs H Q E h => ?_) (fun f cdv A outer s H vs Q E hr h => ?_)
  · obtain ⟨p, c, A, B, C, xs, rfl, _⟩ := h
    rfl
  · obtain ⟨p, c, A, B, C, xs, rfl, hb, b0, b1, c0, c1, hx, ncp, l0, l1, kk⟩ := h
    refine ⟨_, (pss_one (ps_ret (pe_ix ix_seq (pv 1) (pc (ok__law_take M) (hr.mono (by decide)) (by rfl) psb (pa_cons (pv 0) (pa_cons (pe_callB call_len (by rfl) M.g_len PySem.boot_len (pa_cons (pv 1) pa_nil)) pa_nil))) (fun _ _ => rfl)))), ?_⟩
    show tRet _ _ [some (.ref p), some (.ref c)] H
    simp only [L2.tSeq, L2.tRet, L2.tVar, L2.tAnd, L2.tOr, L2.tNot, L2.tTest, L2.tOp, L2.tUn, L2.rU, L2.tCB, L2.tCons, L2.tNil, L2.rIxS, L2.rI0, L2.rI, L2.rEq, L2.rNe, L2.tAug, L2.ipI, L2.tC, L2.tIfS, L2.tIf, L2.tCall, L2.tAsg, L2.gName, L2.tSl, L2.rSlS, L2.tPart, L2.tNoPart, L2.tBM, L2.tBM0, L2.tB, L2.tAndV, L2.tOrV, L2.tNotV, L2.tDrop, L2.tNext, L2.tChain, L2.tPar, L2.tPar3, Cm.tErr, Cm.tGT, L2.tTup, L2.tLst,
  List.getElem?_cons_zero, List.getElem?_cons_succ, Option.some.injEq, exists_eq_left', exists_eq_left, exists_eq', exists_eq, exists_and_left, exists_and_right, exists_const, List.cons.injEq, and_true, true_and, L2.V.str.injEq, L2.V.int.injEq, L2.V.bl.injEq, L2.V.ref.injEq, PySem.Str.mk.injEq, Tx.arr1, Tx.str_len, Tx.at_nat, Tx.cut_nat, Tx.find_one,
  and_assoc, Int.ofNat_inj, Nat.add_sub_cancel_left, Lx.take1_eq, decide_eq_true_eq, Bool.not_eq_true', decide_eq_false_iff_not, Int.ofNat_lt, Int.ofNat_le, Bool.false_eq_true, if_false, if_true, List.set_cons_zero, List.set_cons_succ, List.append_nil, List.nil_append, ↓reduceIte, Cm.nat_succ, Cm.nat_add, Cm.nat_two, List.toList_toArray, not_true, not_false_iff, Cm.toArr_inj, Cm.two_one, Cm.tyV_str, Cm.scal_ss, Cm.scal_ii, Cm.scal_bb, Cm.cb_K, reduceCtorEq, false_and, exists_false, or_false, false_or, List.map_cons, List.map_nil, rIx, rIxL]
    refine ⟨_, .inl ⟨_, hx, rfl⟩, p, A, B, C, _, rfl, hb, b0, b1, c0, c1, by omega, by omega, ?_⟩
    intro n A' C' H' bt hb' n0 n1 q0 q1
    obtain ⟨m, rfl⟩ : ∃ m : Nat, n = (m : Int) := ⟨n.toNat, by omega⟩
    have hm : m < xs.length := by omega
    exact .inl ⟨_, _, rfl, but_seq bt ncp hx, _, by rw [Tx.at_nat]; exact List.getElem?_eq_getElem hm, kk m _ A' C' H' bt hb' (List.getElem?_eq_getElem hm) q0 q1⟩
end
end W
namespace W
open PySem PySem.Spec PyProof.Rows L2 Cm Lx
def vD : V → PyData
  | .int i => .int i
  | .str x => .str x
  | _ => .none
def tokD (t : Lx.Tok) : PyData := .tuple [.str ⟨t.1.toArray⟩, vD t.2.1, .int (t.2.2 : Nat)]
def rowD (r : List Nat × Toks) : PyData := .tuple [.str ⟨r.1.toArray⟩, .list (r.2.map tokD)]
def badD (r : List Nat × Nat) : PyData := .tuple [.str ⟨r.1.toArray⟩, .int (r.2 : Nat)]
abbrev s__law_names : Stmt := topS 39
theorem sc__law_names : FnScope ["_law_rows"] [] (defScope s__law_names) := ⟨rfl, rfl, rfl, by decide +kernel, rfl, by decide +kernel, by decide +kernel⟩
def r_names : List (List Nat × Toks) := [([97, 58, 61, 51], [(kName, Sv [97], 0), (kSign, Sv [58, 61], 1), (kInt, V.int (3), 3)]),
  ([97, 116, 58, 112, 117, 116, 58, 61, 120], [(kKeyword, Sv [97, 116, 58], 0), (kName, Sv [112, 117, 116], 3), (kSign, Sv [58, 61], 6), (kName, Sv [120], 8)]),
  ([35, 97, 116, 58, 112, 117, 116], [(kSym, Sv [97, 116, 58], 0), (kName, Sv [112, 117, 116], 4)]),
  ([35, 97, 116, 58, 112, 117, 116, 58, 120], [(kSym, Sv [97, 116, 58, 112, 117, 116, 58], 0), (kName, Sv [120], 8)]),
  ([35, 97, 58, 98, 58, 61, 99], [(kSym, Sv [97, 58], 0), (kName, Sv [98], 3), (kSign, Sv [58, 61], 4), (kName, Sv [99], 6)]),
  ([35, 97, 58, 61, 49], [(kSym, Sv [97], 0), (kSign, Sv [58, 61], 2), (kInt, V.int (1), 4)]),
  ([35, 97, 35, 98, 58], [(kSym, Sv [97], 0), (kSym, Sv [98, 58], 2)]),
  ([97, 58, 58, 98], [(kKeyword, Sv [97, 58], 0), (kSign, Sv [58], 2), (kName, Sv [98], 3)]),
  ([58, 61, 58, 61], [(kSign, Sv [58, 61], 0), (kSign, Sv [58, 61], 2)]),
  ([58, 58, 61], [(kSign, Sv [58], 0), (kSign, Sv [58, 61], 1)]),
  ([35, 61, 61], [(kSym, Sv [61, 61], 0)]),
  ([35, 60, 61, 61], [(kSym, Sv [60, 61], 0), (kOp, Sv [61], 3)]),
  ([60, 61, 61], [(kOp, Sv [60, 61], 0), (kOp, Sv [61], 2)]),
  ([61, 61, 61], [(kOp, Sv [61, 61], 0), (kOp, Sv [61], 2)]),
  ([126, 61, 126, 126], [(kOp, Sv [126, 61], 0), (kOp, Sv [126, 126], 2)]),
  ([47, 47, 47, 47], [(kOp, Sv [47, 47], 0), (kOp, Sv [47, 47], 2)]),
  ([97, 44, 98], [(kName, Sv [97], 0), (kOp, Sv [44], 1), (kName, Sv [98], 2)]),
  ([62, 61, 60], [(kOp, Sv [62, 61], 0), (kOp, Sv [60], 2)]),
  ([91, 58, 120, 124, 120, 93], [(kSign, Sv [91], 0), (kSign, Sv [58], 1), (kName, Sv [120], 2), (kSign, Sv [124], 3), (kName, Sv [120], 4), (kSign, Sv [93], 5)]),
  ([115, 101, 108, 102, 46, 110, 105, 108, 59, 94], [(kName, Sv [115, 101, 108, 102], 0), (kSign, Sv [46], 4), (kName, Sv [110, 105, 108], 5), (kSign, Sv [59], 8), (kSign, Sv [94], 9)]),
  ([120, 57, 121, 58], [(kKeyword, Sv [120, 57, 121, 58], 0)]),
  ([57, 120], [(kInt, V.int (9), 0), (kName, Sv [120], 1)]),
  ([57, 120, 58], [(kInt, V.int (9), 0), (kKeyword, Sv [120, 58], 1)])]
abbrev s__law_strings : Stmt := topS 40
theorem sc__law_strings : FnScope ["_law_rows"] [] (defScope s__law_strings) := ⟨rfl, rfl, rfl, by decide +kernel, rfl, by decide +kernel, by decide +kernel⟩
def r_strings : List (List Nat × Toks) := [([39, 39], [(kStr, Sv [], 0)]),
  ([39, 39, 39, 39], [(kStr, Sv [39], 0)]),
  ([35, 39, 39], [(kSym, Sv [], 0)]),
  ([35, 39, 39, 39, 39], [(kSym, Sv [39], 0)]),
  ([39, 97, 39, 39, 98, 39], [(kStr, Sv [97, 39, 98], 0)]),
  ([39, 97, 39, 32, 39, 98, 39], [(kStr, Sv [97], 0), (kStr, Sv [98], 4)]),
  ([39, 97, 39, 35, 39, 98, 39], [(kStr, Sv [97], 0), (kSym, Sv [98], 3)]),
  ([39, 34, 39, 34, 39, 34], [(kStr, Sv [34], 0)]),
  ([97, 34, 99, 34, 98], [(kName, Sv [97], 0), (kName, Sv [98], 4)]),
  ([97, 34, 34, 34, 34], [(kName, Sv [97], 0)]),
  ([97, 34, 120, 10, 121, 34, 98], [(kName, Sv [97], 0), (kName, Sv [98], 6)]),
  ([34, 10, 10, 34, 120], [(kName, Sv [120], 4)]),
  ([39, 10, 39], [(kStr, Sv [10], 0)]),
  ([], []),
  ([35, 39, 97, 116, 58, 39, 120], [(kSym, Sv [97, 116, 58], 0), (kName, Sv [120], 6)]),
  ([39, 39, 39, 39, 39, 39], [(kStr, Sv [39, 39], 0)])]
abbrev s__law_numbers : Stmt := topS 41
theorem sc__law_numbers : FnScope ["_law_rows"] [] (defScope s__law_numbers) := ⟨rfl, rfl, rfl, by decide +kernel, rfl, by decide +kernel, by decide +kernel⟩
def r_numbers : List (List Nat × Toks) := [([45, 51], [(kInt, V.int (-3), 0)]),
  ([45, 48], [(kInt, V.int (0), 0)]),
  ([45, 48, 48, 55], [(kInt, V.int (-7), 0)]),
  ([45, 32, 51], [(kOp, Sv [45], 0), (kInt, V.int (3), 2)]),
  ([45, 45, 51], [(kOp, Sv [45], 0), (kInt, V.int (-3), 1)]),
  ([51, 45, 45, 51], [(kInt, V.int (3), 0), (kOp, Sv [45], 1), (kInt, V.int (-3), 2)]),
  ([120, 45, 51], [(kName, Sv [120], 0), (kOp, Sv [45], 1), (kInt, V.int (3), 2)]),
  ([120, 32, 45, 51], [(kName, Sv [120], 0), (kOp, Sv [45], 2), (kInt, V.int (3), 3)]),
  ([120, 34, 99, 34, 45, 51], [(kName, Sv [120], 0), (kOp, Sv [45], 4), (kInt, V.int (3), 5)]),
  ([39, 97, 39, 45, 49], [(kStr, Sv [97], 0), (kOp, Sv [45], 3), (kInt, V.int (1), 4)]),
  ([35, 97, 45, 49], [(kSym, Sv [97], 0), (kOp, Sv [45], 2), (kInt, V.int (1), 3)]),
  ([35, 43, 45, 49], [(kSym, Sv [43], 0), (kOp, Sv [45], 2), (kInt, V.int (1), 3)]),
  ([35, 45, 49], [(kSym, Sv [45], 0), (kInt, V.int (1), 2)]),
  ([41, 45, 49], [(kSign, Sv [41], 0), (kOp, Sv [45], 1), (kInt, V.int (1), 2)]),
  ([93, 45, 49], [(kSign, Sv [93], 0), (kOp, Sv [45], 1), (kInt, V.int (1), 2)]),
  ([40, 45, 49], [(kSign, Sv [40], 0), (kInt, V.int (-1), 1)]),
  ([124, 45, 49], [(kSign, Sv [124], 0), (kInt, V.int (-1), 1)]),
  ([97, 116, 58, 45, 49], [(kKeyword, Sv [97, 116, 58], 0), (kInt, V.int (-1), 3)]),
  ([58, 61, 45, 49], [(kSign, Sv [58, 61], 0), (kInt, V.int (-1), 2)]),
  ([94, 45, 49], [(kSign, Sv [94], 0), (kInt, V.int (-1), 1)]),
  ([97, 43, 45, 49], [(kName, Sv [97], 0), (kOp, Sv [43], 1), (kInt, V.int (-1), 2)])]
abbrev s__law_arrays : Stmt := topS 42
theorem sc__law_arrays : FnScope ["_law_rows"] [] (defScope s__law_arrays) := ⟨rfl, rfl, rfl, by decide +kernel, rfl, by decide +kernel, by decide +kernel⟩
def r_arrays : List (List Nat × Toks) := [([35, 40, 97, 45, 51, 41, 45, 51], [(kSign, Sv [35, 40], 0), (kName, Sv [97], 2), (kInt, V.int (-3), 3), (kSign, Sv [41], 5), (kOp, Sv [45], 6), (kInt, V.int (3), 7)]),
  ([35, 40, 40, 49, 41, 45, 50], [(kSign, Sv [35, 40], 0), (kSign, Sv [40], 2), (kInt, V.int (1), 3), (kSign, Sv [41], 4), (kInt, V.int (-2), 5)]),
  ([40, 35, 40, 41, 45, 50], [(kSign, Sv [40], 0), (kSign, Sv [35, 40], 1), (kSign, Sv [41], 3), (kOp, Sv [45], 4), (kInt, V.int (2), 5)]),
  ([35, 40, 93, 45, 50], [(kSign, Sv [35, 40], 0), (kSign, Sv [93], 2), (kInt, V.int (-2), 3)]),
  ([35, 40, 91, 41, 120, 45, 50], [(kSign, Sv [35, 40], 0), (kSign, Sv [91], 2), (kSign, Sv [41], 3), (kName, Sv [120], 4), (kOp, Sv [45], 5), (kInt, V.int (2), 6)]),
  ([41, 35, 40, 49, 45, 50], [(kSign, Sv [41], 0), (kSign, Sv [35, 40], 1), (kInt, V.int (1), 3), (kInt, V.int (-2), 4)]),
  ([35, 40, 39, 41, 39, 45, 50], [(kSign, Sv [35, 40], 0), (kStr, Sv [41], 2), (kInt, V.int (-2), 5)]),
  ([35, 40, 45, 32, 45, 50], [(kSign, Sv [35, 40], 0), (kOp, Sv [45], 2), (kInt, V.int (-2), 4)]),
  ([35, 40, 40, 97, 45, 50], [(kSign, Sv [35, 40], 0), (kSign, Sv [40], 2), (kName, Sv [97], 3), (kInt, V.int (-2), 4)]),
  ([40, 40, 97, 45, 50], [(kSign, Sv [40], 0), (kSign, Sv [40], 1), (kName, Sv [97], 2), (kOp, Sv [45], 3), (kInt, V.int (2), 4)])]
abbrev s__law_bad : Stmt := topS 43
theorem sc__law_bad : FnScope ["_law_rows"] [] (defScope s__law_bad) := ⟨rfl, rfl, rfl, by decide +kernel, rfl, by decide +kernel, by decide +kernel⟩
def r_bad : List (List Nat × Nat) := [([35], 0),
  ([97, 32, 35], 2),
  ([35, 58], 0),
  ([35, 35, 97], 0),
  ([35, 32, 97], 0),
  ([47], 0),
  ([47, 47, 47], 2),
  ([126], 0),
  ([92], 0),
  ([97, 95, 98], 1),
  ([39, 97], 0),
  ([39, 39, 39, 32], 0),
  ([120, 32, 34, 97], 2),
  ([34], 0),
  ([35, 39, 97, 39, 39], 0),
  ([97, 33], 1),
  ([91, 96, 93], 1),
  ((List.replicate 41 [97]).flatten, 0),
  ((List.replicate 41 [97]).flatten ++ [58], 0),
  ([35] ++ (List.replicate 41 [98]).flatten, 0),
  ([35, 97, 58] ++ (List.replicate 41 [98]).flatten, 3),
  ((List.replicate 61 [49]).flatten, 0),
  ([45] ++ (List.replicate 61 [49]).flatten, 1),
  ([120, 45] ++ (List.replicate 61 [48]).flatten, 2),
  ([39, 97, 39, 34], 3),
  ([123], 0),
  ([97, 63, 98], 1),
  ([36, 97], 0),
  ([126, 60], 0)]
structure Mr (K : PySem.W.Frag) (mg : Str → Option Value) : Prop where
  a__law_names : At K mg "_law_names" s__law_names
  a__law_strings : At K mg "_law_strings" s__law_strings
  a__law_numbers : At K mg "_law_numbers" s__law_numbers
  a__law_arrays : At K mg "_law_arrays" s__law_arrays
  a__law_bad : At K mg "_law_bad" s__law_bad
section
variable {P : Program} {w : World} {K : PySem.W.Frag} {mg : Str → Option Value} {base : Heap}
theorem ok__law_names (M : Mr K mg) : Ok P w K mg base 1 "_law_names" [] (spRows (r_names.map rowD)) := by
  refine mk M.a__law_names sc__law_names (fun _ _ _ _ _ _ us hl => match us, hl with | [], _ => rfl) (fun vs H Q E h => ?_) (fun f cdv A outer s H vs Q E hr h => ?_)
  · obtain ⟨rfl, _⟩ := h
    rfl
  · obtain ⟨rfl, kk⟩ := h
    refine ⟨_, (pss_cons (ps_asg (pl_lst (pls_cons (pl_tup (pls_cons (pl_str [97, 58, 61, 51]) (pls_cons (pl_lst (pls_cons (pl_tup (pls_cons (pl_str [110, 97, 109, 101]) (pls_cons (pl_str [97]) (pls_cons pl_int pls_nil)))) (pls_cons (pl_tup (pls_cons (pl_str [115, 105, 103, 110]) (pls_cons (pl_str [58, 61]) (pls_cons pl_int pls_nil)))) (pls_cons (pl_tup (pls_cons (pl_str [105, 110, 116]) (pls_cons pl_int (pls_cons pl_int pls_nil)))) pls_nil)))) pls_nil))) pls_nil)) (pg_name (i := 0) sc__law_names.nd rfl (.inl rfl)))
      (pss_cons (ps_expr (pe_bm PySem.F.plainAttrs_list PySem.F.slot_list_append PySem.F.type_list_append mt_append (pv 0) (pa_cons (pl_tup (pls_cons (pl_str [97, 116, 58, 112, 117, 116, 58, 61, 120]) (pls_cons (pl_lst (pls_cons (pl_tup (pls_cons (pl_str [107, 101, 121, 119, 111, 114, 100]) (pls_cons (pl_str [97, 116, 58]) (pls_cons pl_int pls_nil)))) (pls_cons (pl_tup (pls_cons (pl_str [110, 97, 109, 101]) (pls_cons (pl_str [112, 117, 116]) (pls_cons pl_int pls_nil)))) (pls_cons (pl_tup (pls_cons (pl_str [115, 105, 103, 110]) (pls_cons (pl_str [58, 61]) (pls_cons pl_int pls_nil)))) (pls_cons (pl_tup (pls_cons (pl_str [110, 97, 109, 101]) (pls_cons (pl_str [120]) (pls_cons pl_int pls_nil)))) pls_nil))))) pls_nil))) pa_nil)))
      (pss_cons (ps_expr (pe_bm PySem.F.plainAttrs_list PySem.F.slot_list_append PySem.F.type_list_append mt_append (pv 0) (pa_cons (pl_tup (pls_cons (pl_str [35, 97, 116, 58, 112, 117, 116]) (pls_cons (pl_lst (pls_cons (pl_tup (pls_cons (pl_str [115, 121, 109]) (pls_cons (pl_str [97, 116, 58]) (pls_cons pl_int pls_nil)))) (pls_cons (pl_tup (pls_cons (pl_str [110, 97, 109, 101]) (pls_cons (pl_str [112, 117, 116]) (pls_cons pl_int pls_nil)))) pls_nil))) pls_nil))) pa_nil)))
      (pss_cons (ps_expr (pe_bm PySem.F.plainAttrs_list PySem.F.slot_list_append PySem.F.type_list_append mt_append (pv 0) (pa_cons (pl_tup (pls_cons (pl_str [35, 97, 116, 58, 112, 117, 116, 58, 120]) (pls_cons (pl_lst (pls_cons (pl_tup (pls_cons (pl_str [115, 121, 109]) (pls_cons (pl_str [97, 116, 58, 112, 117, 116, 58]) (pls_cons pl_int pls_nil)))) (pls_cons (pl_tup (pls_cons (pl_str [110, 97, 109, 101]) (pls_cons (pl_str [120]) (pls_cons pl_int pls_nil)))) pls_nil))) pls_nil))) pa_nil)))
      (pss_cons (ps_expr (pe_bm PySem.F.plainAttrs_list PySem.F.slot_list_append PySem.F.type_list_append mt_append (pv 0) (pa_cons (pl_tup (pls_cons (pl_str [35, 97, 58, 98, 58, 61, 99]) (pls_cons (pl_lst (pls_cons (pl_tup (pls_cons (pl_str [115, 121, 109]) (pls_cons (pl_str [97, 58]) (pls_cons pl_int pls_nil)))) (pls_cons (pl_tup (pls_cons (pl_str [110, 97, 109, 101]) (pls_cons (pl_str [98]) (pls_cons pl_int pls_nil)))) (pls_cons (pl_tup (pls_cons (pl_str [115, 105, 103, 110]) (pls_cons (pl_str [58, 61]) (pls_cons pl_int pls_nil)))) (pls_cons (pl_tup (pls_cons (pl_str [110, 97, 109, 101]) (pls_cons (pl_str [99]) (pls_cons pl_int pls_nil)))) pls_nil))))) pls_nil))) pa_nil)))
      (pss_cons (ps_expr (pe_bm PySem.F.plainAttrs_list PySem.F.slot_list_append PySem.F.type_list_append mt_append (pv 0) (pa_cons (pl_tup (pls_cons (pl_str [35, 97, 58, 61, 49]) (pls_cons (pl_lst (pls_cons (pl_tup (pls_cons (pl_str [115, 121, 109]) (pls_cons (pl_str [97]) (pls_cons pl_int pls_nil)))) (pls_cons (pl_tup (pls_cons (pl_str [115, 105, 103, 110]) (pls_cons (pl_str [58, 61]) (pls_cons pl_int pls_nil)))) (pls_cons (pl_tup (pls_cons (pl_str [105, 110, 116]) (pls_cons pl_int (pls_cons pl_int pls_nil)))) pls_nil)))) pls_nil))) pa_nil)))
      (pss_cons (ps_expr (pe_bm PySem.F.plainAttrs_list PySem.F.slot_list_append PySem.F.type_list_append mt_append (pv 0) (pa_cons (pl_tup (pls_cons (pl_str [35, 97, 35, 98, 58]) (pls_cons (pl_lst (pls_cons (pl_tup (pls_cons (pl_str [115, 121, 109]) (pls_cons (pl_str [97]) (pls_cons pl_int pls_nil)))) (pls_cons (pl_tup (pls_cons (pl_str [115, 121, 109]) (pls_cons (pl_str [98, 58]) (pls_cons pl_int pls_nil)))) pls_nil))) pls_nil))) pa_nil)))
      (pss_cons (ps_expr (pe_bm PySem.F.plainAttrs_list PySem.F.slot_list_append PySem.F.type_list_append mt_append (pv 0) (pa_cons (pl_tup (pls_cons (pl_str [97, 58, 58, 98]) (pls_cons (pl_lst (pls_cons (pl_tup (pls_cons (pl_str [107, 101, 121, 119, 111, 114, 100]) (pls_cons (pl_str [97, 58]) (pls_cons pl_int pls_nil)))) (pls_cons (pl_tup (pls_cons (pl_str [115, 105, 103, 110]) (pls_cons (pl_str [58]) (pls_cons pl_int pls_nil)))) (pls_cons (pl_tup (pls_cons (pl_str [110, 97, 109, 101]) (pls_cons (pl_str [98]) (pls_cons pl_int pls_nil)))) pls_nil)))) pls_nil))) pa_nil)))
      (pss_cons (ps_expr (pe_bm PySem.F.plainAttrs_list PySem.F.slot_list_append PySem.F.type_list_append mt_append (pv 0) (pa_cons (pl_tup (pls_cons (pl_str [58, 61, 58, 61]) (pls_cons (pl_lst (pls_cons (pl_tup (pls_cons (pl_str [115, 105, 103, 110]) (pls_cons (pl_str [58, 61]) (pls_cons pl_int pls_nil)))) (pls_cons (pl_tup (pls_cons (pl_str [115, 105, 103, 110]) (pls_cons (pl_str [58, 61]) (pls_cons pl_int pls_nil)))) pls_nil))) pls_nil))) pa_nil)))
      (pss_cons (ps_expr (pe_bm PySem.F.plainAttrs_list PySem.F.slot_list_append PySem.F.type_list_append mt_append (pv 0) (pa_cons (pl_tup (pls_cons (pl_str [58, 58, 61]) (pls_cons (pl_lst (pls_cons (pl_tup (pls_cons (pl_str [115, 105, 103, 110]) (pls_cons (pl_str [58]) (pls_cons pl_int pls_nil)))) (pls_cons (pl_tup (pls_cons (pl_str [115, 105, 103, 110]) (pls_cons (pl_str [58, 61]) (pls_cons pl_int pls_nil)))) pls_nil))) pls_nil))) pa_nil)))
      (pss_cons (ps_expr (pe_bm PySem.F.plainAttrs_list PySem.F.slot_list_append PySem.F.type_list_append mt_append (pv 0) (pa_cons (pl_tup (pls_cons (pl_str [35, 61, 61]) (pls_cons (pl_lst (pls_cons (pl_tup (pls_cons (pl_str [115, 121, 109]) (pls_cons (pl_str [61, 61]) (pls_cons pl_int pls_nil)))) pls_nil)) pls_nil))) pa_nil)))
      (pss_cons (ps_expr (pe_bm PySem.F.plainAttrs_list PySem.F.slot_list_append PySem.F.type_list_append mt_append (pv 0) (pa_cons (pl_tup (pls_cons (pl_str [35, 60, 61, 61]) (pls_cons (pl_lst (pls_cons (pl_tup (pls_cons (pl_str [115, 121, 109]) (pls_cons (pl_str [60, 61]) (pls_cons pl_int pls_nil)))) (pls_cons (pl_tup (pls_cons (pl_str [111, 112]) (pls_cons (pl_str [61]) (pls_cons pl_int pls_nil)))) pls_nil))) pls_nil))) pa_nil)))
      (pss_cons (ps_expr (pe_bm PySem.F.plainAttrs_list PySem.F.slot_list_append PySem.F.type_list_append mt_append (pv 0) (pa_cons (pl_tup (pls_cons (pl_str [60, 61, 61]) (pls_cons (pl_lst (pls_cons (pl_tup (pls_cons (pl_str [111, 112]) (pls_cons (pl_str [60, 61]) (pls_cons pl_int pls_nil)))) (pls_cons (pl_tup (pls_cons (pl_str [111, 112]) (pls_cons (pl_str [61]) (pls_cons pl_int pls_nil)))) pls_nil))) pls_nil))) pa_nil)))
      (pss_cons (ps_expr (pe_bm PySem.F.plainAttrs_list PySem.F.slot_list_append PySem.F.type_list_append mt_append (pv 0) (pa_cons (pl_tup (pls_cons (pl_str [61, 61, 61]) (pls_cons (pl_lst (pls_cons (pl_tup (pls_cons (pl_str [111, 112]) (pls_cons (pl_str [61, 61]) (pls_cons pl_int pls_nil)))) (pls_cons (pl_tup (pls_cons (pl_str [111, 112]) (pls_cons (pl_str [61]) (pls_cons pl_int pls_nil)))) pls_nil))) pls_nil))) pa_nil)))
      (pss_cons (ps_expr (pe_bm PySem.F.plainAttrs_list PySem.F.slot_list_append PySem.F.type_list_append mt_append (pv 0) (pa_cons (pl_tup (pls_cons (pl_str [126, 61, 126, 126]) (pls_cons (pl_lst (pls_cons (pl_tup (pls_cons (pl_str [111, 112]) (pls_cons (pl_str [126, 61]) (pls_cons pl_int pls_nil)))) (pls_cons (pl_tup (pls_cons (pl_str [111, 112]) (pls_cons (pl_str [126, 126]) (pls_cons pl_int pls_nil)))) pls_nil))) pls_nil))) pa_nil)))
      (pss_cons (ps_expr (pe_bm PySem.F.plainAttrs_list PySem.F.slot_list_append PySem.F.type_list_append mt_append (pv 0) (pa_cons (pl_tup (pls_cons (pl_str [47, 47, 47, 47]) (pls_cons (pl_lst (pls_cons (pl_tup (pls_cons (pl_str [111, 112]) (pls_cons (pl_str [47, 47]) (pls_cons pl_int pls_nil)))) (pls_cons (pl_tup (pls_cons (pl_str [111, 112]) (pls_cons (pl_str [47, 47]) (pls_cons pl_int pls_nil)))) pls_nil))) pls_nil))) pa_nil)))
      (pss_cons (ps_expr (pe_bm PySem.F.plainAttrs_list PySem.F.slot_list_append PySem.F.type_list_append mt_append (pv 0) (pa_cons (pl_tup (pls_cons (pl_str [97, 44, 98]) (pls_cons (pl_lst (pls_cons (pl_tup (pls_cons (pl_str [110, 97, 109, 101]) (pls_cons (pl_str [97]) (pls_cons pl_int pls_nil)))) (pls_cons (pl_tup (pls_cons (pl_str [111, 112]) (pls_cons (pl_str [44]) (pls_cons pl_int pls_nil)))) (pls_cons (pl_tup (pls_cons (pl_str [110, 97, 109, 101]) (pls_cons (pl_str [98]) (pls_cons pl_int pls_nil)))) pls_nil)))) pls_nil))) pa_nil)))
      (pss_cons (ps_expr (pe_bm PySem.F.plainAttrs_list PySem.F.slot_list_append PySem.F.type_list_append mt_append (pv 0) (pa_cons (pl_tup (pls_cons (pl_str [62, 61, 60]) (pls_cons (pl_lst (pls_cons (pl_tup (pls_cons (pl_str [111, 112]) (pls_cons (pl_str [62, 61]) (pls_cons pl_int pls_nil)))) (pls_cons (pl_tup (pls_cons (pl_str [111, 112]) (pls_cons (pl_str [60]) (pls_cons pl_int pls_nil)))) pls_nil))) pls_nil))) pa_nil)))
      (pss_cons (ps_expr (pe_bm PySem.F.plainAttrs_list PySem.F.slot_list_append PySem.F.type_list_append mt_append (pv 0) (pa_cons (pl_tup (pls_cons (pl_str [91, 58, 120, 124, 120, 93]) (pls_cons (pl_lst (pls_cons (pl_tup (pls_cons (pl_str [115, 105, 103, 110]) (pls_cons (pl_str [91]) (pls_cons pl_int pls_nil)))) (pls_cons (pl_tup (pls_cons (pl_str [115, 105, 103, 110]) (pls_cons (pl_str [58]) (pls_cons pl_int pls_nil)))) (pls_cons (pl_tup (pls_cons (pl_str [110, 97, 109, 101]) (pls_cons (pl_str [120]) (pls_cons pl_int pls_nil)))) (pls_cons (pl_tup (pls_cons (pl_str [115, 105, 103, 110]) (pls_cons (pl_str [124]) (pls_cons pl_int pls_nil)))) (pls_cons (pl_tup (pls_cons (pl_str [110, 97, 109, 101]) (pls_cons (pl_str [120]) (pls_cons pl_int pls_nil)))) (pls_cons (pl_tup (pls_cons (pl_str [115, 105, 103, 110]) (pls_cons (pl_str [93]) (pls_cons pl_int pls_nil)))) pls_nil))))))) pls_nil))) pa_nil)))
      (pss_cons (ps_expr (pe_bm PySem.F.plainAttrs_list PySem.F.slot_list_append PySem.F.type_list_append mt_append (pv 0) (pa_cons (pl_tup (pls_cons (pl_str [115, 101, 108, 102, 46, 110, 105, 108, 59, 94]) (pls_cons (pl_lst (pls_cons (pl_tup (pls_cons (pl_str [110, 97, 109, 101]) (pls_cons (pl_str [115, 101, 108, 102]) (pls_cons pl_int pls_nil)))) (pls_cons (pl_tup (pls_cons (pl_str [115, 105, 103, 110]) (pls_cons (pl_str [46]) (pls_cons pl_int pls_nil)))) (pls_cons (pl_tup (pls_cons (pl_str [110, 97, 109, 101]) (pls_cons (pl_str [110, 105, 108]) (pls_cons pl_int pls_nil)))) (pls_cons (pl_tup (pls_cons (pl_str [115, 105, 103, 110]) (pls_cons (pl_str [59]) (pls_cons pl_int pls_nil)))) (pls_cons (pl_tup (pls_cons (pl_str [115, 105, 103, 110]) (pls_cons (pl_str [94]) (pls_cons pl_int pls_nil)))) pls_nil)))))) pls_nil))) pa_nil)))
      (pss_cons (ps_expr (pe_bm PySem.F.plainAttrs_list PySem.F.slot_list_append PySem.F.type_list_append mt_append (pv 0) (pa_cons (pl_tup (pls_cons (pl_str [120, 57, 121, 58]) (pls_cons (pl_lst (pls_cons (pl_tup (pls_cons (pl_str [107, 101, 121, 119, 111, 114, 100]) (pls_cons (pl_str [120, 57, 121, 58]) (pls_cons pl_int pls_nil)))) pls_nil)) pls_nil))) pa_nil)))
      (pss_cons (ps_expr (pe_bm PySem.F.plainAttrs_list PySem.F.slot_list_append PySem.F.type_list_append mt_append (pv 0) (pa_cons (pl_tup (pls_cons (pl_str [57, 120]) (pls_cons (pl_lst (pls_cons (pl_tup (pls_cons (pl_str [105, 110, 116]) (pls_cons pl_int (pls_cons pl_int pls_nil)))) (pls_cons (pl_tup (pls_cons (pl_str [110, 97, 109, 101]) (pls_cons (pl_str [120]) (pls_cons pl_int pls_nil)))) pls_nil))) pls_nil))) pa_nil)))
      (pss_cons (ps_expr (pe_bm PySem.F.plainAttrs_list PySem.F.slot_list_append PySem.F.type_list_append mt_append (pv 0) (pa_cons (pl_tup (pls_cons (pl_str [57, 120, 58]) (pls_cons (pl_lst (pls_cons (pl_tup (pls_cons (pl_str [105, 110, 116]) (pls_cons pl_int (pls_cons pl_int pls_nil)))) (pls_cons (pl_tup (pls_cons (pl_str [107, 101, 121, 119, 111, 114, 100]) (pls_cons (pl_str [120, 58]) (pls_cons pl_int pls_nil)))) pls_nil))) pls_nil))) pa_nil)))
      (pss_one (ps_ret (pv 0)))))))))))))))))))))))))), ?_⟩
    show tSeq _ _ _ [none] H
    refine rows_asg (by decide) fun σ H1 p => ?_
    refine rows_app p (by decide) fun σ H1 p => ?_
    refine rows_app p (by decide) fun σ H1 p => ?_
    refine rows_app p (by decide) fun σ H1 p => ?_
    refine rows_app p (by decide) fun σ H1 p => ?_
    refine rows_app p (by decide) fun σ H1 p => ?_
    refine rows_app p (by decide) fun σ H1 p => ?_
    refine rows_app p (by decide) fun σ H1 p => ?_
    refine rows_app p (by decide) fun σ H1 p => ?_
    refine rows_app p (by decide) fun σ H1 p => ?_
    refine rows_app p (by decide) fun σ H1 p => ?_
    refine rows_app p (by decide) fun σ H1 p => ?_
    refine rows_app p (by decide) fun σ H1 p => ?_
    refine rows_app p (by decide) fun σ H1 p => ?_
    refine rows_app p (by decide) fun σ H1 p => ?_
    refine rows_app p (by decide) fun σ H1 p => ?_
    refine rows_app p (by decide) fun σ H1 p => ?_
    refine rows_app p (by decide) fun σ H1 p => ?_
    refine rows_app p (by decide) fun σ H1 p => ?_
    refine rows_app p (by decide) fun σ H1 p => ?_
    refine rows_app p (by decide) fun σ H1 p => ?_
    refine rows_app p (by decide) fun σ H1 p => ?_
    refine rows_app p (by decide) fun σ H1 p => ?_
    exact rows_ret p kk
theorem ok__law_strings (M : Mr K mg) : Ok P w K mg base 1 "_law_strings" [] (spRows (r_strings.map rowD)) := by
  refine mk M.a__law_strings sc__law_strings (fun _ _ _ _ _ _ us hl => match us, hl with | [], _ => rfl) (fun vs H Q E h => ?_) (fun f cdv A outer s H vs Q E hr h => ?_)
  · obtain ⟨rfl, _⟩ := h
    rfl
  · obtain ⟨rfl, kk⟩ := h
    refine ⟨_, (pss_cons (ps_asg (pl_lst (pls_cons (pl_tup (pls_cons (pl_str [39, 39]) (pls_cons (pl_lst (pls_cons (pl_tup (pls_cons (pl_str [115, 116, 114]) (pls_cons (pl_str []) (pls_cons pl_int pls_nil)))) pls_nil)) pls_nil))) (pls_cons (pl_tup (pls_cons (pl_str [39, 39, 39, 39]) (pls_cons (pl_lst (pls_cons (pl_tup (pls_cons (pl_str [115, 116, 114]) (pls_cons (pl_str [39]) (pls_cons pl_int pls_nil)))) pls_nil)) pls_nil))) (pls_cons (pl_tup (pls_cons (pl_str [35, 39, 39]) (pls_cons (pl_lst (pls_cons (pl_tup (pls_cons (pl_str [115, 121, 109]) (pls_cons (pl_str []) (pls_cons pl_int pls_nil)))) pls_nil)) pls_nil))) pls_nil)))) (pg_name (i := 0) sc__law_strings.nd rfl (.inl rfl)))
      (pss_cons (ps_expr (pe_bm PySem.F.plainAttrs_list PySem.F.slot_list_append PySem.F.type_list_append mt_append (pv 0) (pa_cons (pl_tup (pls_cons (pl_str [35, 39, 39, 39, 39]) (pls_cons (pl_lst (pls_cons (pl_tup (pls_cons (pl_str [115, 121, 109]) (pls_cons (pl_str [39]) (pls_cons pl_int pls_nil)))) pls_nil)) pls_nil))) pa_nil)))
      (pss_cons (ps_expr (pe_bm PySem.F.plainAttrs_list PySem.F.slot_list_append PySem.F.type_list_append mt_append (pv 0) (pa_cons (pl_tup (pls_cons (pl_str [39, 97, 39, 39, 98, 39]) (pls_cons (pl_lst (pls_cons (pl_tup (pls_cons (pl_str [115, 116, 114]) (pls_cons (pl_str [97, 39, 98]) (pls_cons pl_int pls_nil)))) pls_nil)) pls_nil))) pa_nil)))
      (pss_cons (ps_expr (pe_bm PySem.F.plainAttrs_list PySem.F.slot_list_append PySem.F.type_list_append mt_append (pv 0) (pa_cons (pl_tup (pls_cons (pl_str [39, 97, 39, 32, 39, 98, 39]) (pls_cons (pl_lst (pls_cons (pl_tup (pls_cons (pl_str [115, 116, 114]) (pls_cons (pl_str [97]) (pls_cons pl_int pls_nil)))) (pls_cons (pl_tup (pls_cons (pl_str [115, 116, 114]) (pls_cons (pl_str [98]) (pls_cons pl_int pls_nil)))) pls_nil))) pls_nil))) pa_nil)))
      (pss_cons (ps_expr (pe_bm PySem.F.plainAttrs_list PySem.F.slot_list_append PySem.F.type_list_append mt_append (pv 0) (pa_cons (pl_tup (pls_cons (pl_str [39, 97, 39, 35, 39, 98, 39]) (pls_cons (pl_lst (pls_cons (pl_tup (pls_cons (pl_str [115, 116, 114]) (pls_cons (pl_str [97]) (pls_cons pl_int pls_nil)))) (pls_cons (pl_tup (pls_cons (pl_str [115, 121, 109]) (pls_cons (pl_str [98]) (pls_cons pl_int pls_nil)))) pls_nil))) pls_nil))) pa_nil)))
      (pss_cons (ps_expr (pe_bm PySem.F.plainAttrs_list PySem.F.slot_list_append PySem.F.type_list_append mt_append (pv 0) (pa_cons (pl_tup (pls_cons (pl_str [39, 34, 39, 34, 39, 34]) (pls_cons (pl_lst (pls_cons (pl_tup (pls_cons (pl_str [115, 116, 114]) (pls_cons (pl_str [34]) (pls_cons pl_int pls_nil)))) pls_nil)) pls_nil))) pa_nil)))
      (pss_cons (ps_expr (pe_bm PySem.F.plainAttrs_list PySem.F.slot_list_append PySem.F.type_list_append mt_append (pv 0) (pa_cons (pl_tup (pls_cons (pl_str [97, 34, 99, 34, 98]) (pls_cons (pl_lst (pls_cons (pl_tup (pls_cons (pl_str [110, 97, 109, 101]) (pls_cons (pl_str [97]) (pls_cons pl_int pls_nil)))) (pls_cons (pl_tup (pls_cons (pl_str [110, 97, 109, 101]) (pls_cons (pl_str [98]) (pls_cons pl_int pls_nil)))) pls_nil))) pls_nil))) pa_nil)))
      (pss_cons (ps_expr (pe_bm PySem.F.plainAttrs_list PySem.F.slot_list_append PySem.F.type_list_append mt_append (pv 0) (pa_cons (pl_tup (pls_cons (pl_str [97, 34, 34, 34, 34]) (pls_cons (pl_lst (pls_cons (pl_tup (pls_cons (pl_str [110, 97, 109, 101]) (pls_cons (pl_str [97]) (pls_cons pl_int pls_nil)))) pls_nil)) pls_nil))) pa_nil)))
      (pss_cons (ps_expr (pe_bm PySem.F.plainAttrs_list PySem.F.slot_list_append PySem.F.type_list_append mt_append (pv 0) (pa_cons (pl_tup (pls_cons (pl_str [97, 34, 120, 10, 121, 34, 98]) (pls_cons (pl_lst (pls_cons (pl_tup (pls_cons (pl_str [110, 97, 109, 101]) (pls_cons (pl_str [97]) (pls_cons pl_int pls_nil)))) (pls_cons (pl_tup (pls_cons (pl_str [110, 97, 109, 101]) (pls_cons (pl_str [98]) (pls_cons pl_int pls_nil)))) pls_nil))) pls_nil))) pa_nil)))
      (pss_cons (ps_expr (pe_bm PySem.F.plainAttrs_list PySem.F.slot_list_append PySem.F.type_list_append mt_append (pv 0) (pa_cons (pl_tup (pls_cons (pl_str [34, 10, 10, 34, 120]) (pls_cons (pl_lst (pls_cons (pl_tup (pls_cons (pl_str [110, 97, 109, 101]) (pls_cons (pl_str [120]) (pls_cons pl_int pls_nil)))) pls_nil)) pls_nil))) pa_nil)))
      (pss_cons (ps_expr (pe_bm PySem.F.plainAttrs_list PySem.F.slot_list_append PySem.F.type_list_append mt_append (pv 0) (pa_cons (pl_tup (pls_cons (pl_str [39, 10, 39]) (pls_cons (pl_lst (pls_cons (pl_tup (pls_cons (pl_str [115, 116, 114]) (pls_cons (pl_str [10]) (pls_cons pl_int pls_nil)))) pls_nil)) pls_nil))) pa_nil)))
      (pss_cons (ps_expr (pe_bm PySem.F.plainAttrs_list PySem.F.slot_list_append PySem.F.type_list_append mt_append (pv 0) (pa_cons (pl_tup (pls_cons (pl_str []) (pls_cons (pl_lst pls_nil) pls_nil))) pa_nil)))
      (pss_cons (ps_expr (pe_bm PySem.F.plainAttrs_list PySem.F.slot_list_append PySem.F.type_list_append mt_append (pv 0) (pa_cons (pl_tup (pls_cons (pl_str [35, 39, 97, 116, 58, 39, 120]) (pls_cons (pl_lst (pls_cons (pl_tup (pls_cons (pl_str [115, 121, 109]) (pls_cons (pl_str [97, 116, 58]) (pls_cons pl_int pls_nil)))) (pls_cons (pl_tup (pls_cons (pl_str [110, 97, 109, 101]) (pls_cons (pl_str [120]) (pls_cons pl_int pls_nil)))) pls_nil))) pls_nil))) pa_nil)))
      (pss_cons (ps_expr (pe_bm PySem.F.plainAttrs_list PySem.F.slot_list_append PySem.F.type_list_append mt_append (pv 0) (pa_cons (pl_tup (pls_cons (pl_str [39, 39, 39, 39, 39, 39]) (pls_cons (pl_lst (pls_cons (pl_tup (pls_cons (pl_str [115, 116, 114]) (pls_cons (pl_str [39, 39]) (pls_cons pl_int pls_nil)))) pls_nil)) pls_nil))) pa_nil)))
      (pss_one (ps_ret (pv 0))))))))))))))))), ?_⟩
    show tSeq _ _ _ [none] H
    refine rows_asg (by decide) fun σ H1 p => ?_
    refine rows_app p (by decide) fun σ H1 p => ?_
    refine rows_app p (by decide) fun σ H1 p => ?_
    refine rows_app p (by decide) fun σ H1 p => ?_
    refine rows_app p (by decide) fun σ H1 p => ?_
    refine rows_app p (by decide) fun σ H1 p => ?_
    refine rows_app p (by decide) fun σ H1 p => ?_
    refine rows_app p (by decide) fun σ H1 p => ?_
    refine rows_app p (by decide) fun σ H1 p => ?_
    refine rows_app p (by decide) fun σ H1 p => ?_
    refine rows_app p (by decide) fun σ H1 p => ?_
    refine rows_app p (by decide) fun σ H1 p => ?_
    refine rows_app p (by decide) fun σ H1 p => ?_
    refine rows_app p (by decide) fun σ H1 p => ?_
    exact rows_ret p kk
theorem ok__law_numbers (M : Mr K mg) : Ok P w K mg base 1 "_law_numbers" [] (spRows (r_numbers.map rowD)) := by
  refine mk M.a__law_numbers sc__law_numbers (fun _ _ _ _ _ _ us hl => match us, hl with | [], _ => rfl) (fun vs H Q E h => ?_) (fun f cdv A outer s H vs Q E hr h => ?_)
  · obtain ⟨rfl, _⟩ := h
    rfl
  · obtain ⟨rfl, kk⟩ := h
    refine ⟨_, (pss_cons (ps_asg (pl_lst (pls_cons (pl_tup (pls_cons (pl_str [45, 51]) (pls_cons (pl_lst (pls_cons (pl_tup (pls_cons (pl_str [105, 110, 116]) (pls_cons pl_neg (pls_cons pl_int pls_nil)))) pls_nil)) pls_nil))) (pls_cons (pl_tup (pls_cons (pl_str [45, 48]) (pls_cons (pl_lst (pls_cons (pl_tup (pls_cons (pl_str [105, 110, 116]) (pls_cons pl_int (pls_cons pl_int pls_nil)))) pls_nil)) pls_nil))) (pls_cons (pl_tup (pls_cons (pl_str [45, 48, 48, 55]) (pls_cons (pl_lst (pls_cons (pl_tup (pls_cons (pl_str [105, 110, 116]) (pls_cons pl_neg (pls_cons pl_int pls_nil)))) pls_nil)) pls_nil))) pls_nil)))) (pg_name (i := 0) sc__law_numbers.nd rfl (.inl rfl)))
      (pss_cons (ps_expr (pe_bm PySem.F.plainAttrs_list PySem.F.slot_list_append PySem.F.type_list_append mt_append (pv 0) (pa_cons (pl_tup (pls_cons (pl_str [45, 32, 51]) (pls_cons (pl_lst (pls_cons (pl_tup (pls_cons (pl_str [111, 112]) (pls_cons (pl_str [45]) (pls_cons pl_int pls_nil)))) (pls_cons (pl_tup (pls_cons (pl_str [105, 110, 116]) (pls_cons pl_int (pls_cons pl_int pls_nil)))) pls_nil))) pls_nil))) pa_nil)))
      (pss_cons (ps_expr (pe_bm PySem.F.plainAttrs_list PySem.F.slot_list_append PySem.F.type_list_append mt_append (pv 0) (pa_cons (pl_tup (pls_cons (pl_str [45, 45, 51]) (pls_cons (pl_lst (pls_cons (pl_tup (pls_cons (pl_str [111, 112]) (pls_cons (pl_str [45]) (pls_cons pl_int pls_nil)))) (pls_cons (pl_tup (pls_cons (pl_str [105, 110, 116]) (pls_cons pl_neg (pls_cons pl_int pls_nil)))) pls_nil))) pls_nil))) pa_nil)))
      (pss_cons (ps_expr (pe_bm PySem.F.plainAttrs_list PySem.F.slot_list_append PySem.F.type_list_append mt_append (pv 0) (pa_cons (pl_tup (pls_cons (pl_str [51, 45, 45, 51]) (pls_cons (pl_lst (pls_cons (pl_tup (pls_cons (pl_str [105, 110, 116]) (pls_cons pl_int (pls_cons pl_int pls_nil)))) (pls_cons (pl_tup (pls_cons (pl_str [111, 112]) (pls_cons (pl_str [45]) (pls_cons pl_int pls_nil)))) (pls_cons (pl_tup (pls_cons (pl_str [105, 110, 116]) (pls_cons pl_neg (pls_cons pl_int pls_nil)))) pls_nil)))) pls_nil))) pa_nil)))
      (pss_cons (ps_expr (pe_bm PySem.F.plainAttrs_list PySem.F.slot_list_append PySem.F.type_list_append mt_append (pv 0) (pa_cons (pl_tup (pls_cons (pl_str [120, 45, 51]) (pls_cons (pl_lst (pls_cons (pl_tup (pls_cons (pl_str [110, 97, 109, 101]) (pls_cons (pl_str [120]) (pls_cons pl_int pls_nil)))) (pls_cons (pl_tup (pls_cons (pl_str [111, 112]) (pls_cons (pl_str [45]) (pls_cons pl_int pls_nil)))) (pls_cons (pl_tup (pls_cons (pl_str [105, 110, 116]) (pls_cons pl_int (pls_cons pl_int pls_nil)))) pls_nil)))) pls_nil))) pa_nil)))
      (pss_cons (ps_expr (pe_bm PySem.F.plainAttrs_list PySem.F.slot_list_append PySem.F.type_list_append mt_append (pv 0) (pa_cons (pl_tup (pls_cons (pl_str [120, 32, 45, 51]) (pls_cons (pl_lst (pls_cons (pl_tup (pls_cons (pl_str [110, 97, 109, 101]) (pls_cons (pl_str [120]) (pls_cons pl_int pls_nil)))) (pls_cons (pl_tup (pls_cons (pl_str [111, 112]) (pls_cons (pl_str [45]) (pls_cons pl_int pls_nil)))) (pls_cons (pl_tup (pls_cons (pl_str [105, 110, 116]) (pls_cons pl_int (pls_cons pl_int pls_nil)))) pls_nil)))) pls_nil))) pa_nil)))
      (pss_cons (ps_expr (pe_bm PySem.F.plainAttrs_list PySem.F.slot_list_append PySem.F.type_list_append mt_append (pv 0) (pa_cons (pl_tup (pls_cons (pl_str [120, 34, 99, 34, 45, 51]) (pls_cons (pl_lst (pls_cons (pl_tup (pls_cons (pl_str [110, 97, 109, 101]) (pls_cons (pl_str [120]) (pls_cons pl_int pls_nil)))) (pls_cons (pl_tup (pls_cons (pl_str [111, 112]) (pls_cons (pl_str [45]) (pls_cons pl_int pls_nil)))) (pls_cons (pl_tup (pls_cons (pl_str [105, 110, 116]) (pls_cons pl_int (pls_cons pl_int pls_nil)))) pls_nil)))) pls_nil))) pa_nil)))
      (pss_cons (ps_expr (pe_bm PySem.F.plainAttrs_list PySem.F.slot_list_append PySem.F.type_list_append mt_append (pv 0) (pa_cons (pl_tup (pls_cons (pl_str [39, 97, 39, 45, 49]) (pls_cons (pl_lst (pls_cons (pl_tup (pls_cons (pl_str [115, 116, 114]) (pls_cons (pl_str [97]) (pls_cons pl_int pls_nil)))) (pls_cons (pl_tup (pls_cons (pl_str [111, 112]) (pls_cons (pl_str [45]) (pls_cons pl_int pls_nil)))) (pls_cons (pl_tup (pls_cons (pl_str [105, 110, 116]) (pls_cons pl_int (pls_cons pl_int pls_nil)))) pls_nil)))) pls_nil))) pa_nil)))
      (pss_cons (ps_expr (pe_bm PySem.F.plainAttrs_list PySem.F.slot_list_append PySem.F.type_list_append mt_append (pv 0) (pa_cons (pl_tup (pls_cons (pl_str [35, 97, 45, 49]) (pls_cons (pl_lst (pls_cons (pl_tup (pls_cons (pl_str [115, 121, 109]) (pls_cons (pl_str [97]) (pls_cons pl_int pls_nil)))) (pls_cons (pl_tup (pls_cons (pl_str [111, 112]) (pls_cons (pl_str [45]) (pls_cons pl_int pls_nil)))) (pls_cons (pl_tup (pls_cons (pl_str [105, 110, 116]) (pls_cons pl_int (pls_cons pl_int pls_nil)))) pls_nil)))) pls_nil))) pa_nil)))
      (pss_cons (ps_expr (pe_bm PySem.F.plainAttrs_list PySem.F.slot_list_append PySem.F.type_list_append mt_append (pv 0) (pa_cons (pl_tup (pls_cons (pl_str [35, 43, 45, 49]) (pls_cons (pl_lst (pls_cons (pl_tup (pls_cons (pl_str [115, 121, 109]) (pls_cons (pl_str [43]) (pls_cons pl_int pls_nil)))) (pls_cons (pl_tup (pls_cons (pl_str [111, 112]) (pls_cons (pl_str [45]) (pls_cons pl_int pls_nil)))) (pls_cons (pl_tup (pls_cons (pl_str [105, 110, 116]) (pls_cons pl_int (pls_cons pl_int pls_nil)))) pls_nil)))) pls_nil))) pa_nil)))
      (pss_cons (ps_expr (pe_bm PySem.F.plainAttrs_list PySem.F.slot_list_append PySem.F.type_list_append mt_append (pv 0) (pa_cons (pl_tup (pls_cons (pl_str [35, 45, 49]) (pls_cons (pl_lst (pls_cons (pl_tup (pls_cons (pl_str [115, 121, 109]) (pls_cons (pl_str [45]) (pls_cons pl_int pls_nil)))) (pls_cons (pl_tup (pls_cons (pl_str [105, 110, 116]) (pls_cons pl_int (pls_cons pl_int pls_nil)))) pls_nil))) pls_nil))) pa_nil)))
      (pss_cons (ps_expr (pe_bm PySem.F.plainAttrs_list PySem.F.slot_list_append PySem.F.type_list_append mt_append (pv 0) (pa_cons (pl_tup (pls_cons (pl_str [41, 45, 49]) (pls_cons (pl_lst (pls_cons (pl_tup (pls_cons (pl_str [115, 105, 103, 110]) (pls_cons (pl_str [41]) (pls_cons pl_int pls_nil)))) (pls_cons (pl_tup (pls_cons (pl_str [111, 112]) (pls_cons (pl_str [45]) (pls_cons pl_int pls_nil)))) (pls_cons (pl_tup (pls_cons (pl_str [105, 110, 116]) (pls_cons pl_int (pls_cons pl_int pls_nil)))) pls_nil)))) pls_nil))) pa_nil)))
      (pss_cons (ps_expr (pe_bm PySem.F.plainAttrs_list PySem.F.slot_list_append PySem.F.type_list_append mt_append (pv 0) (pa_cons (pl_tup (pls_cons (pl_str [93, 45, 49]) (pls_cons (pl_lst (pls_cons (pl_tup (pls_cons (pl_str [115, 105, 103, 110]) (pls_cons (pl_str [93]) (pls_cons pl_int pls_nil)))) (pls_cons (pl_tup (pls_cons (pl_str [111, 112]) (pls_cons (pl_str [45]) (pls_cons pl_int pls_nil)))) (pls_cons (pl_tup (pls_cons (pl_str [105, 110, 116]) (pls_cons pl_int (pls_cons pl_int pls_nil)))) pls_nil)))) pls_nil))) pa_nil)))
      (pss_cons (ps_expr (pe_bm PySem.F.plainAttrs_list PySem.F.slot_list_append PySem.F.type_list_append mt_append (pv 0) (pa_cons (pl_tup (pls_cons (pl_str [40, 45, 49]) (pls_cons (pl_lst (pls_cons (pl_tup (pls_cons (pl_str [115, 105, 103, 110]) (pls_cons (pl_str [40]) (pls_cons pl_int pls_nil)))) (pls_cons (pl_tup (pls_cons (pl_str [105, 110, 116]) (pls_cons pl_neg (pls_cons pl_int pls_nil)))) pls_nil))) pls_nil))) pa_nil)))
      (pss_cons (ps_expr (pe_bm PySem.F.plainAttrs_list PySem.F.slot_list_append PySem.F.type_list_append mt_append (pv 0) (pa_cons (pl_tup (pls_cons (pl_str [124, 45, 49]) (pls_cons (pl_lst (pls_cons (pl_tup (pls_cons (pl_str [115, 105, 103, 110]) (pls_cons (pl_str [124]) (pls_cons pl_int pls_nil)))) (pls_cons (pl_tup (pls_cons (pl_str [105, 110, 116]) (pls_cons pl_neg (pls_cons pl_int pls_nil)))) pls_nil))) pls_nil))) pa_nil)))
      (pss_cons (ps_expr (pe_bm PySem.F.plainAttrs_list PySem.F.slot_list_append PySem.F.type_list_append mt_append (pv 0) (pa_cons (pl_tup (pls_cons (pl_str [97, 116, 58, 45, 49]) (pls_cons (pl_lst (pls_cons (pl_tup (pls_cons (pl_str [107, 101, 121, 119, 111, 114, 100]) (pls_cons (pl_str [97, 116, 58]) (pls_cons pl_int pls_nil)))) (pls_cons (pl_tup (pls_cons (pl_str [105, 110, 116]) (pls_cons pl_neg (pls_cons pl_int pls_nil)))) pls_nil))) pls_nil))) pa_nil)))
      (pss_cons (ps_expr (pe_bm PySem.F.plainAttrs_list PySem.F.slot_list_append PySem.F.type_list_append mt_append (pv 0) (pa_cons (pl_tup (pls_cons (pl_str [58, 61, 45, 49]) (pls_cons (pl_lst (pls_cons (pl_tup (pls_cons (pl_str [115, 105, 103, 110]) (pls_cons (pl_str [58, 61]) (pls_cons pl_int pls_nil)))) (pls_cons (pl_tup (pls_cons (pl_str [105, 110, 116]) (pls_cons pl_neg (pls_cons pl_int pls_nil)))) pls_nil))) pls_nil))) pa_nil)))
      (pss_cons (ps_expr (pe_bm PySem.F.plainAttrs_list PySem.F.slot_list_append PySem.F.type_list_append mt_append (pv 0) (pa_cons (pl_tup (pls_cons (pl_str [94, 45, 49]) (pls_cons (pl_lst (pls_cons (pl_tup (pls_cons (pl_str [115, 105, 103, 110]) (pls_cons (pl_str [94]) (pls_cons pl_int pls_nil)))) (pls_cons (pl_tup (pls_cons (pl_str [105, 110, 116]) (pls_cons pl_neg (pls_cons pl_int pls_nil)))) pls_nil))) pls_nil))) pa_nil)))
      (pss_cons (ps_expr (pe_bm PySem.F.plainAttrs_list PySem.F.slot_list_append PySem.F.type_list_append mt_append (pv 0) (pa_cons (pl_tup (pls_cons (pl_str [97, 43, 45, 49]) (pls_cons (pl_lst (pls_cons (pl_tup (pls_cons (pl_str [110, 97, 109, 101]) (pls_cons (pl_str [97]) (pls_cons pl_int pls_nil)))) (pls_cons (pl_tup (pls_cons (pl_str [111, 112]) (pls_cons (pl_str [43]) (pls_cons pl_int pls_nil)))) (pls_cons (pl_tup (pls_cons (pl_str [105, 110, 116]) (pls_cons pl_neg (pls_cons pl_int pls_nil)))) pls_nil)))) pls_nil))) pa_nil)))
      (pss_one (ps_ret (pv 0)))))))))))))))))))))), ?_⟩
    show tSeq _ _ _ [none] H
    refine rows_asg (by decide) fun σ H1 p => ?_
    refine rows_app p (by decide) fun σ H1 p => ?_
    refine rows_app p (by decide) fun σ H1 p => ?_
    refine rows_app p (by decide) fun σ H1 p => ?_
    refine rows_app p (by decide) fun σ H1 p => ?_
    refine rows_app p (by decide) fun σ H1 p => ?_
    refine rows_app p (by decide) fun σ H1 p => ?_
    refine rows_app p (by decide) fun σ H1 p => ?_
    refine rows_app p (by decide) fun σ H1 p => ?_
    refine rows_app p (by decide) fun σ H1 p => ?_
    refine rows_app p (by decide) fun σ H1 p => ?_
    refine rows_app p (by decide) fun σ H1 p => ?_
    refine rows_app p (by decide) fun σ H1 p => ?_
    refine rows_app p (by decide) fun σ H1 p => ?_
    refine rows_app p (by decide) fun σ H1 p => ?_
    refine rows_app p (by decide) fun σ H1 p => ?_
    refine rows_app p (by decide) fun σ H1 p => ?_
    refine rows_app p (by decide) fun σ H1 p => ?_
    refine rows_app p (by decide) fun σ H1 p => ?_
    exact rows_ret p kk
theorem ok__law_arrays (M : Mr K mg) : Ok P w K mg base 1 "_law_arrays" [] (spRows (r_arrays.map rowD)) := by
  refine mk M.a__law_arrays sc__law_arrays (fun _ _ _ _ _ _ us hl => match us, hl with | [], _ => rfl) (fun vs H Q E h => ?_) (fun f cdv A outer s H vs Q E hr h => ?_)
  · obtain ⟨rfl, _⟩ := h
    rfl
  · obtain ⟨rfl, kk⟩ := h
    refine ⟨_, (pss_cons (ps_asg (pl_lst (pls_cons (pl_tup (pls_cons (pl_str [35, 40, 97, 45, 51, 41, 45, 51]) (pls_cons (pl_lst (pls_cons (pl_tup (pls_cons (pl_str [115, 105, 103, 110]) (pls_cons (pl_str [35, 40]) (pls_cons pl_int pls_nil)))) (pls_cons (pl_tup (pls_cons (pl_str [110, 97, 109, 101]) (pls_cons (pl_str [97]) (pls_cons pl_int pls_nil)))) (pls_cons (pl_tup (pls_cons (pl_str [105, 110, 116]) (pls_cons pl_neg (pls_cons pl_int pls_nil)))) (pls_cons (pl_tup (pls_cons (pl_str [115, 105, 103, 110]) (pls_cons (pl_str [41]) (pls_cons pl_int pls_nil)))) (pls_cons (pl_tup (pls_cons (pl_str [111, 112]) (pls_cons (pl_str [45]) (pls_cons pl_int pls_nil)))) (pls_cons (pl_tup (pls_cons (pl_str [105, 110, 116]) (pls_cons pl_int (pls_cons pl_int pls_nil)))) pls_nil))))))) pls_nil))) pls_nil)) (pg_name (i := 0) sc__law_arrays.nd rfl (.inl rfl)))
      (pss_cons (ps_expr (pe_bm PySem.F.plainAttrs_list PySem.F.slot_list_append PySem.F.type_list_append mt_append (pv 0) (pa_cons (pl_tup (pls_cons (pl_str [35, 40, 40, 49, 41, 45, 50]) (pls_cons (pl_lst (pls_cons (pl_tup (pls_cons (pl_str [115, 105, 103, 110]) (pls_cons (pl_str [35, 40]) (pls_cons pl_int pls_nil)))) (pls_cons (pl_tup (pls_cons (pl_str [115, 105, 103, 110]) (pls_cons (pl_str [40]) (pls_cons pl_int pls_nil)))) (pls_cons (pl_tup (pls_cons (pl_str [105, 110, 116]) (pls_cons pl_int (pls_cons pl_int pls_nil)))) (pls_cons (pl_tup (pls_cons (pl_str [115, 105, 103, 110]) (pls_cons (pl_str [41]) (pls_cons pl_int pls_nil)))) (pls_cons (pl_tup (pls_cons (pl_str [105, 110, 116]) (pls_cons pl_neg (pls_cons pl_int pls_nil)))) pls_nil)))))) pls_nil))) pa_nil)))
      (pss_cons (ps_expr (pe_bm PySem.F.plainAttrs_list PySem.F.slot_list_append PySem.F.type_list_append mt_append (pv 0) (pa_cons (pl_tup (pls_cons (pl_str [40, 35, 40, 41, 45, 50]) (pls_cons (pl_lst (pls_cons (pl_tup (pls_cons (pl_str [115, 105, 103, 110]) (pls_cons (pl_str [40]) (pls_cons pl_int pls_nil)))) (pls_cons (pl_tup (pls_cons (pl_str [115, 105, 103, 110]) (pls_cons (pl_str [35, 40]) (pls_cons pl_int pls_nil)))) (pls_cons (pl_tup (pls_cons (pl_str [115, 105, 103, 110]) (pls_cons (pl_str [41]) (pls_cons pl_int pls_nil)))) (pls_cons (pl_tup (pls_cons (pl_str [111, 112]) (pls_cons (pl_str [45]) (pls_cons pl_int pls_nil)))) (pls_cons (pl_tup (pls_cons (pl_str [105, 110, 116]) (pls_cons pl_int (pls_cons pl_int pls_nil)))) pls_nil)))))) pls_nil))) pa_nil)))
      (pss_cons (ps_expr (pe_bm PySem.F.plainAttrs_list PySem.F.slot_list_append PySem.F.type_list_append mt_append (pv 0) (pa_cons (pl_tup (pls_cons (pl_str [35, 40, 93, 45, 50]) (pls_cons (pl_lst (pls_cons (pl_tup (pls_cons (pl_str [115, 105, 103, 110]) (pls_cons (pl_str [35, 40]) (pls_cons pl_int pls_nil)))) (pls_cons (pl_tup (pls_cons (pl_str [115, 105, 103, 110]) (pls_cons (pl_str [93]) (pls_cons pl_int pls_nil)))) (pls_cons (pl_tup (pls_cons (pl_str [105, 110, 116]) (pls_cons pl_neg (pls_cons pl_int pls_nil)))) pls_nil)))) pls_nil))) pa_nil)))
      (pss_cons (ps_expr (pe_bm PySem.F.plainAttrs_list PySem.F.slot_list_append PySem.F.type_list_append mt_append (pv 0) (pa_cons (pl_tup (pls_cons (pl_str [35, 40, 91, 41, 120, 45, 50]) (pls_cons (pl_lst (pls_cons (pl_tup (pls_cons (pl_str [115, 105, 103, 110]) (pls_cons (pl_str [35, 40]) (pls_cons pl_int pls_nil)))) (pls_cons (pl_tup (pls_cons (pl_str [115, 105, 103, 110]) (pls_cons (pl_str [91]) (pls_cons pl_int pls_nil)))) (pls_cons (pl_tup (pls_cons (pl_str [115, 105, 103, 110]) (pls_cons (pl_str [41]) (pls_cons pl_int pls_nil)))) (pls_cons (pl_tup (pls_cons (pl_str [110, 97, 109, 101]) (pls_cons (pl_str [120]) (pls_cons pl_int pls_nil)))) (pls_cons (pl_tup (pls_cons (pl_str [111, 112]) (pls_cons (pl_str [45]) (pls_cons pl_int pls_nil)))) (pls_cons (pl_tup (pls_cons (pl_str [105, 110, 116]) (pls_cons pl_int (pls_cons pl_int pls_nil)))) pls_nil))))))) pls_nil))) pa_nil)))
      (pss_cons (ps_expr (pe_bm PySem.F.plainAttrs_list PySem.F.slot_list_append PySem.F.type_list_append mt_append (pv 0) (pa_cons (pl_tup (pls_cons (pl_str [41, 35, 40, 49, 45, 50]) (pls_cons (pl_lst (pls_cons (pl_tup (pls_cons (pl_str [115, 105, 103, 110]) (pls_cons (pl_str [41]) (pls_cons pl_int pls_nil)))) (pls_cons (pl_tup (pls_cons (pl_str [115, 105, 103, 110]) (pls_cons (pl_str [35, 40]) (pls_cons pl_int pls_nil)))) (pls_cons (pl_tup (pls_cons (pl_str [105, 110, 116]) (pls_cons pl_int (pls_cons pl_int pls_nil)))) (pls_cons (pl_tup (pls_cons (pl_str [105, 110, 116]) (pls_cons pl_neg (pls_cons pl_int pls_nil)))) pls_nil))))) pls_nil))) pa_nil)))
      (pss_cons (ps_expr (pe_bm PySem.F.plainAttrs_list PySem.F.slot_list_append PySem.F.type_list_append mt_append (pv 0) (pa_cons (pl_tup (pls_cons (pl_str [35, 40, 39, 41, 39, 45, 50]) (pls_cons (pl_lst (pls_cons (pl_tup (pls_cons (pl_str [115, 105, 103, 110]) (pls_cons (pl_str [35, 40]) (pls_cons pl_int pls_nil)))) (pls_cons (pl_tup (pls_cons (pl_str [115, 116, 114]) (pls_cons (pl_str [41]) (pls_cons pl_int pls_nil)))) (pls_cons (pl_tup (pls_cons (pl_str [105, 110, 116]) (pls_cons pl_neg (pls_cons pl_int pls_nil)))) pls_nil)))) pls_nil))) pa_nil)))
      (pss_cons (ps_expr (pe_bm PySem.F.plainAttrs_list PySem.F.slot_list_append PySem.F.type_list_append mt_append (pv 0) (pa_cons (pl_tup (pls_cons (pl_str [35, 40, 45, 32, 45, 50]) (pls_cons (pl_lst (pls_cons (pl_tup (pls_cons (pl_str [115, 105, 103, 110]) (pls_cons (pl_str [35, 40]) (pls_cons pl_int pls_nil)))) (pls_cons (pl_tup (pls_cons (pl_str [111, 112]) (pls_cons (pl_str [45]) (pls_cons pl_int pls_nil)))) (pls_cons (pl_tup (pls_cons (pl_str [105, 110, 116]) (pls_cons pl_neg (pls_cons pl_int pls_nil)))) pls_nil)))) pls_nil))) pa_nil)))
      (pss_cons (ps_expr (pe_bm PySem.F.plainAttrs_list PySem.F.slot_list_append PySem.F.type_list_append mt_append (pv 0) (pa_cons (pl_tup (pls_cons (pl_str [35, 40, 40, 97, 45, 50]) (pls_cons (pl_lst (pls_cons (pl_tup (pls_cons (pl_str [115, 105, 103, 110]) (pls_cons (pl_str [35, 40]) (pls_cons pl_int pls_nil)))) (pls_cons (pl_tup (pls_cons (pl_str [115, 105, 103, 110]) (pls_cons (pl_str [40]) (pls_cons pl_int pls_nil)))) (pls_cons (pl_tup (pls_cons (pl_str [110, 97, 109, 101]) (pls_cons (pl_str [97]) (pls_cons pl_int pls_nil)))) (pls_cons (pl_tup (pls_cons (pl_str [105, 110, 116]) (pls_cons pl_neg (pls_cons pl_int pls_nil)))) pls_nil))))) pls_nil))) pa_nil)))
      (pss_cons (ps_expr (pe_bm PySem.F.plainAttrs_list PySem.F.slot_list_append PySem.F.type_list_append mt_append (pv 0) (pa_cons (pl_tup (pls_cons (pl_str [40, 40, 97, 45, 50]) (pls_cons (pl_lst (pls_cons (pl_tup (pls_cons (pl_str [115, 105, 103, 110]) (pls_cons (pl_str [40]) (pls_cons pl_int pls_nil)))) (pls_cons (pl_tup (pls_cons (pl_str [115, 105, 103, 110]) (pls_cons (pl_str [40]) (pls_cons pl_int pls_nil)))) (pls_cons (pl_tup (pls_cons (pl_str [110, 97, 109, 101]) (pls_cons (pl_str [97]) (pls_cons pl_int pls_nil)))) (pls_cons (pl_tup (pls_cons (pl_str [111, 112]) (pls_cons (pl_str [45]) (pls_cons pl_int pls_nil)))) (pls_cons (pl_tup (pls_cons (pl_str [105, 110, 116]) (pls_cons pl_int (pls_cons pl_int pls_nil)))) pls_nil)))))) pls_nil))) pa_nil)))
      (pss_one (ps_ret (pv 0))))))))))))), ?_⟩
    show tSeq _ _ _ [none] H
    refine rows_asg (by decide) fun σ H1 p => ?_
    refine rows_app p (by decide) fun σ H1 p => ?_
    refine rows_app p (by decide) fun σ H1 p => ?_
    refine rows_app p (by decide) fun σ H1 p => ?_
    refine rows_app p (by decide) fun σ H1 p => ?_
    refine rows_app p (by decide) fun σ H1 p => ?_
    refine rows_app p (by decide) fun σ H1 p => ?_
    refine rows_app p (by decide) fun σ H1 p => ?_
    refine rows_app p (by decide) fun σ H1 p => ?_
    refine rows_app p (by decide) fun σ H1 p => ?_
    exact rows_ret p kk
theorem ok__law_bad (M : Mr K mg) : Ok P w K mg base 1 "_law_bad" [] (spRows (r_bad.map badD)) := by
  refine mk M.a__law_bad sc__law_bad (fun _ _ _ _ _ _ us hl => match us, hl with | [], _ => rfl) (fun vs H Q E h => ?_) (fun f cdv A outer s H vs Q E hr h => ?_)
  · obtain ⟨rfl, _⟩ := h
    rfl
  · obtain ⟨rfl, kk⟩ := h
    refine ⟨_, (pss_cons (ps_asg (pl_lst (pls_cons (pl_tup (pls_cons (pl_str [35]) (pls_cons pl_int pls_nil))) (pls_cons (pl_tup (pls_cons (pl_str [97, 32, 35]) (pls_cons pl_int pls_nil))) (pls_cons (pl_tup (pls_cons (pl_str [35, 58]) (pls_cons pl_int pls_nil))) (pls_cons (pl_tup (pls_cons (pl_str [35, 35, 97]) (pls_cons pl_int pls_nil))) (pls_cons (pl_tup (pls_cons (pl_str [35, 32, 97]) (pls_cons pl_int pls_nil))) (pls_cons (pl_tup (pls_cons (pl_str [47]) (pls_cons pl_int pls_nil))) (pls_cons (pl_tup (pls_cons (pl_str [47, 47, 47]) (pls_cons pl_int pls_nil))) (pls_cons (pl_tup (pls_cons (pl_str [126]) (pls_cons pl_int pls_nil))) (pls_cons (pl_tup (pls_cons (pl_str [92]) (pls_cons pl_int pls_nil))) pls_nil)))))))))) (pg_name (i := 0) sc__law_bad.nd rfl (.inl rfl)))
      (pss_cons (ps_asg (pe_op op_cat (pv 0) (pl_lst (pls_cons (pl_tup (pls_cons (pl_str [97, 95, 98]) (pls_cons pl_int pls_nil))) (pls_cons (pl_tup (pls_cons (pl_str [39, 97]) (pls_cons pl_int pls_nil))) (pls_cons (pl_tup (pls_cons (pl_str [39, 39, 39, 32]) (pls_cons pl_int pls_nil))) (pls_cons (pl_tup (pls_cons (pl_str [120, 32, 34, 97]) (pls_cons pl_int pls_nil))) (pls_cons (pl_tup (pls_cons (pl_str [34]) (pls_cons pl_int pls_nil))) (pls_cons (pl_tup (pls_cons (pl_str [35, 39, 97, 39, 39]) (pls_cons pl_int pls_nil))) (pls_cons (pl_tup (pls_cons (pl_str [97, 33]) (pls_cons pl_int pls_nil))) (pls_cons (pl_tup (pls_cons (pl_str [91, 96, 93]) (pls_cons pl_int pls_nil))) pls_nil)))))))))) (pg_name (i := 0) sc__law_bad.nd rfl (.inl rfl)))
      (pss_cons (ps_asg (pe_op op_cat (pv 0) (pl_lst (pls_cons (pl_tup (pls_cons (pl_mulS (l := [97]) (n := 41)) (pls_cons pl_int pls_nil))) (pls_cons (pl_tup (pls_cons (pl_addS (pl_mulS (l := [97]) (n := 41)) (pl_str [58])) (pls_cons pl_int pls_nil))) (pls_cons (pl_tup (pls_cons (pl_addS (pl_str [35]) (pl_mulS (l := [98]) (n := 41))) (pls_cons pl_int pls_nil))) (pls_cons (pl_tup (pls_cons (pl_addS (pl_str [35, 97, 58]) (pl_mulS (l := [98]) (n := 41))) (pls_cons pl_int pls_nil))) (pls_cons (pl_tup (pls_cons (pl_mulS (l := [49]) (n := 61)) (pls_cons pl_int pls_nil))) pls_nil))))))) (pg_name (i := 0) sc__law_bad.nd rfl (.inl rfl)))
      (pss_one (ps_ret (pe_op op_cat (pv 0) (pl_lst (pls_cons (pl_tup (pls_cons (pl_addS (pl_str [45]) (pl_mulS (l := [49]) (n := 61))) (pls_cons pl_int pls_nil))) (pls_cons (pl_tup (pls_cons (pl_addS (pl_str [120, 45]) (pl_mulS (l := [48]) (n := 61))) (pls_cons pl_int pls_nil))) (pls_cons (pl_tup (pls_cons (pl_str [39, 97, 39, 34]) (pls_cons pl_int pls_nil))) (pls_cons (pl_tup (pls_cons (pl_str [123]) (pls_cons pl_int pls_nil))) (pls_cons (pl_tup (pls_cons (pl_str [97, 63, 98]) (pls_cons pl_int pls_nil))) (pls_cons (pl_tup (pls_cons (pl_str [36, 97]) (pls_cons pl_int pls_nil))) (pls_cons (pl_tup (pls_cons (pl_str [126, 60]) (pls_cons pl_int pls_nil))) pls_nil)))))))))))))), ?_⟩
    show tSeq _ _ _ [none] H
    refine rows_asg (by decide) fun σ H1 p => ?_
    refine rows_cat p (by decide) fun σ H1 p => ?_
    refine rows_cat p (by decide) fun σ H1 p => ?_
    exact rows_catE p (by decide) kk
end
end W
namespace W
open PySem PySem.Spec PyProof.Rows L2 Cm Lx
abbrev s__law_ahead : Stmt := topS 44
theorem sc__law_ahead : FnScope ["_law_bag_here", "_law_piece"] ["_law_bag_here"] (defScope s__law_ahead) := ⟨rfl, rfl, rfl, by decide +kernel, rfl, by decide +kernel, by decide +kernel⟩
abbrev s__law_told : Stmt := topS 45
theorem sc__law_told : FnScope ["_law_text", "_law_found", "_law_place", "e"] ["_law_text"] (defScope s__law_told) := ⟨rfl, rfl, rfl, by decide +kernel, rfl, by decide +kernel, by decide +kernel⟩
structure Mc (K : PySem.W.Frag) (mg : Str → Option Value) : Prop where
  a__law_ahead : At K mg "_law_ahead" s__law_ahead
  a__law_told : At K mg "_law_told" s__law_told
/-- the bag at p: at most m taken by its counter -/
def Bag (m : Int) (H : Hp) (p : Addr) : Prop := ∃ A B C : Int, H p = some (.lst [.int A, .int B, .int C]) ∧ 0 ≤ B ∧ B < 10 ^ 41 ∧ 0 ≤ C ∧ C ≤ m
def spPk (K : PySem.W.Frag) : Sp := fun vs H Q _ => ∃ (p c : Addr) (m : Int) (xs : List V), vs = [.ref p, .ref c] ∧ Bag m H p ∧ m < 10 ^ 9 ∧ SqL K H c xs ∧ c ≠ p ∧ 0 < xs.length ∧ xs.length ≤ 100000 ∧
  ∀ x H', But p H H' → Bag (m + 1) H' p → x ∈ xs → Q x H'
def pieces : List (List Nat) := [[], [32], [10], [34, 99, 34], [34, 39, 35, 40, 34, 32, 10], [32, 34, 34], [34, 97, 10, 98, 34]]
def counts : List Nat := [0, 1, 1, 2, 200]
def Gap (l : List Nat) : Prop := ∃ q ∈ pieces, ∃ n ∈ counts, l = (List.replicate n q).flatten
def spAhead : Sp := fun vs H Q _ => ∃ (p : Addr) (m : Int), vs = [.ref p] ∧ Bag m H p ∧ m + 1 < 10 ^ 9 ∧ ∀ l H', But p H H' → Bag (m + 2) H' p → Gap l → Q (S l) H'
def kRead : List Nat := [114, 101, 97, 100]
def ToldAt (H : Hp) (a : Addr) : Except Int Toks → Prop
  | .ok ws => ∃ l, H a = some (.tup [.ref l, S kRead]) ∧ ToksAt H l ws
  | .error p => H a = some (.tup [.non, .int p])
def spTold (K : PySem.W.Frag) : Sp := fun vs H Q _ => ∃ v r, vs = [v] ∧ ((∃ t, v = S t ∧ BT t ∧ r = wordsOf t) ∨ ∃ T, TyX K H v (.type T) ∧ kitB T "str" = some false ∧ r = .error (-1)) ∧ ∀ a H', Same H H' → H a = none → ToldAt H' a r → Q (.ref a) H'
section
variable {P : Program} {w : World} {K : PySem.W.Frag} {mg : Str → Option Value} {base : Heap} {CB : Addr}
theorem ok_pk (M : Mb K mg) : Ok P w K mg base 2 "_law_pick" ["_law_bag_here", "_law_things"] (spPk K) := (ok__law_pick M).imp fun vs H Q E h => by
  obtain ⟨p, c, m, xs, rfl, ⟨A, B, C, hb, b0, b1, c0, c1⟩, hm, hx, ncp, l0, l1, k⟩ := h
  exact ⟨p, c, A, B, C, xs, rfl, hb, b0, b1, c0, by omega, hx, ncp, l0, l1, fun i x A' C' H' bt hb' hi q0 q1 => k x H' bt ⟨A', B, C', hb', b0, b1, by omega, by omega⟩ (List.mem_of_getElem? hi)⟩
theorem toks_same {H H' : Hp} {l : Addr} {ws : Toks} (s : Same H H') (h : ToksAt H l ws) : ToksAt H' l ws := by
  obtain ⟨ps, h1, h2⟩ := h
  exact ⟨ps, s _ _ h1, Cm.Paired.imp (fun _ _ t => ⟨s _ _ t.1, t.2⟩) h2⟩
theorem Bag.np {G : Hp} {p q : Addr} {n : Int} (b : Bag n G p) (e : G q = none) : q ≠ p := fun z => by
  obtain ⟨A, B, C, h, _⟩ := b
  rw [z, h] at e
  cases e
theorem Bag.same {G G' : Hp} {p : Addr} {n : Int} (b : Bag n G p) (s : Same G G') : Bag n G' p := by
  obtain ⟨A, B, C, h, r⟩ := b
  exact ⟨A, B, C, s _ _ h, r⟩
theorem ok__law_ahead (M : Mb K mg) (N : Mc K mg) : Ok P w K mg base 3 "_law_ahead" ["_law_bag_here"] spAhead := by
  refine mk N.a__law_ahead sc__law_ahead (fun _ _ _ _ _ _ us hl => match us, hl with | [_], _ => rfl) (fun vs H Q E h => ?_) (fun f cdv A outer s H vs Q E hr h => ?_)
  · obtain ⟨p, m, rfl, _⟩ := h
    rfl
  · obtain ⟨p, m, rfl, hb, hm, kk⟩ := h
    refine ⟨_, (pss_cons (ps_asg (pc (ok_pk M) (hr.mono (by decide)) (by rfl) psb (pa_cons (pv 0) (pa_cons (pe_lst (pa_cons (pe_strL []) (pa_cons (pe_strL [32]) (pa_cons (pe_strL [10]) (pa_cons (pe_strL [34, 99, 34]) (pa_cons (pe_strL [34, 39, 35, 40, 34, 32, 10]) (pa_cons (pe_strL [32, 34, 34]) (pa_cons (pe_strL [34, 97, 10, 98, 34]) pa_nil)))))))) pa_nil))) (pg_name (i := 1) sc__law_ahead.nd rfl (.inl rfl)))
      (pss_one (ps_ret (pe_op op_mulS (pv 1) (pc (ok_pk M) (hr.mono (by decide)) (by rfl) psb (pa_cons (pv 0) (pa_cons (pe_lst (pa_cons pe_int (pa_cons pe_int (pa_cons pe_int (pa_cons pe_int (pa_cons pe_int pa_nil)))))) pa_nil))))))), ?_⟩
    show tSeq _ _ _ [some (.ref p), none] H
    simp only [L2.tSeq, L2.tRet, L2.tVar, L2.tAnd, L2.tOr, L2.tNot, L2.tTest, L2.tOp, L2.tUn, L2.rU, L2.tCB, L2.tCons, L2.tNil, L2.rIxS, L2.rI0, L2.rI, L2.rEq, L2.rNe, L2.tAug, L2.ipI, L2.tC, L2.tIfS, L2.tIf, L2.tCall, L2.tAsg, L2.gName, L2.tSl, L2.rSlS, L2.tPart, L2.tNoPart, L2.tBM, L2.tBM0, L2.tB, L2.tAndV, L2.tOrV, L2.tNotV, L2.tDrop, L2.tNext, L2.tChain, L2.tPar, L2.tPar3, Cm.tErr, Cm.tGT, L2.tTup, L2.tLst,
  List.getElem?_cons_zero, List.getElem?_cons_succ, Option.some.injEq, exists_eq_left', exists_eq_left, exists_eq', exists_eq, exists_and_left, exists_and_right, exists_const, List.cons.injEq, and_true, true_and, L2.V.str.injEq, L2.V.int.injEq, L2.V.bl.injEq, L2.V.ref.injEq, PySem.Str.mk.injEq, Tx.arr1, Tx.str_len, Tx.at_nat, Tx.cut_nat, Tx.find_one,
  and_assoc, Int.ofNat_inj, Nat.add_sub_cancel_left, Lx.take1_eq, decide_eq_true_eq, Bool.not_eq_true', decide_eq_false_iff_not, Int.ofNat_lt, Int.ofNat_le, Bool.false_eq_true, if_false, if_true, List.set_cons_zero, List.set_cons_succ, List.append_nil, List.nil_append, ↓reduceIte, Cm.nat_succ, Cm.nat_add, Cm.nat_two, List.toList_toArray, not_true, not_false_iff, Cm.toArr_inj, Cm.two_one, Cm.tyV_str, Cm.scal_ss, Cm.scal_ii, Cm.scal_bb, Cm.cb_K, reduceCtorEq, false_and, exists_false, or_false, false_or, List.map_cons, List.map_nil]
    refine ⟨by decide, fun q1 n1 => ⟨p, q1, m, _, rfl, hb.same (same_new n1), by omega, sqL upd_same, hb.np n1, by decide, by decide, fun x H1 bt1 hb1 hx => ⟨by decide, fun q2 n2 => ⟨p, q2, m + 1, _, rfl, hb1.same (same_new n2), by omega, sqL upd_same, hb1.np n2, by decide, by decide, fun y H2 bt2 hb2 hy => ?_⟩⟩⟩⟩
    have hx' : x ∈ pieces.map S := hx
    have hy' : y ∈ counts.map fun n : Nat => V.int (n : Int) := hy
    obtain ⟨q, hq, rfl⟩ := List.mem_map.mp hx'
    obtain ⟨n, hn, rfl⟩ := List.mem_map.mp hy'
    have key : ∀ q ∈ pieces, ∀ n ∈ counts, q.length * n ≤ 100000 ∧ n ≤ 100000 := by decide
    obtain ⟨k1, k2⟩ := key q hq n hn
    refine ⟨q, rfl, n, rfl, k1, k2, kk _ H2 ?_ ?_ ⟨q, hq, n, hn, rfl⟩⟩
    · exact (((Cm.Same.but (same_new n1)).trans bt1).trans (Cm.Same.but (same_new n2))).trans bt2
    · have e : m + 1 + 1 = m + 2 := by omega
      rw [← e]
      exact hb2
theorem ok__law_told (M : Md P w K mg base CB) (N : Mc K mg) : Ok P w K mg base 11 "_law_told" ["_law_text"] (spTold K) := by
  refine mk N.a__law_told sc__law_told (fun _ _ _ _ _ _ us hl => match us, hl with | [_], _ => rfl) (fun vs H Q E h => ?_) (fun f cdv A outer s H vs Q E hr h => ?_)
  · obtain ⟨v, r, rfl, _⟩ := h
    rfl
  · obtain ⟨v, r, rfl, h, kk⟩ := h
    refine ⟨_, (pss_cons (ps_asg pe_non (pg_name (i := 1) sc__law_told.nd rfl (.inl rfl)))
      (pss_cons (ps_asg (pe_strL [114, 101, 97, 100]) (pg_name (i := 2) sc__law_told.nd rfl (.inl rfl)))
      (pss_cons (ps_try_as (i := 3) rfl rfl sc__law_told.nd rfl rfl ⟨rfl, by decide, Or.inl M.x_BadSource.g⟩ takes0
        (fun W pn xe tk _ => (pss_one (ps_asg (pck ((ok_words_of M).kw M.a_words_of (fun _ _ _ _ _ _ _ => rfl)) (hr.mono (by decide)) (by rfl) (fun σ => passAt tk σ) (pv 0)) (pg_name (i := 1) sc__law_told.nd rfl (.inl rfl)))))
        (fun a oe cls d pn hz hf => (pss_one (ps_asg (pe_xf M.x_BadSource.xf M.x_BadSource.no hz hf (pv 3)) (pg_name (i := 2) sc__law_told.nd rfl (.inl rfl))))))
      (pss_one (ps_ret (pe_tup (pa_cons (pv 1) (pa_cons (pv 2) pa_nil)))))))), ?_⟩
    show tSeq _ _ _ [some v, none, none, none] H
    simp only [L2.tSeq, L2.tRet, L2.tVar, L2.tAnd, L2.tOr, L2.tNot, L2.tTest, L2.tOp, L2.tUn, L2.rU, L2.tCB, L2.tCons, L2.tNil, L2.rIxS, L2.rI0, L2.rI, L2.rEq, L2.rNe, L2.tAug, L2.ipI, L2.tC, L2.tIfS, L2.tIf, L2.tCall, L2.tAsg, L2.gName, L2.tSl, L2.rSlS, L2.tPart, L2.tNoPart, L2.tBM, L2.tBM0, L2.tB, L2.tAndV, L2.tOrV, L2.tNotV, L2.tDrop, L2.tNext, L2.tChain, L2.tPar, L2.tPar3, Cm.tErr, Cm.tGT, L2.tTup, L2.tLst,
  List.getElem?_cons_zero, List.getElem?_cons_succ, Option.some.injEq, exists_eq_left', exists_eq_left, exists_eq', exists_eq, exists_and_left, exists_and_right, exists_const, List.cons.injEq, and_true, true_and, L2.V.str.injEq, L2.V.int.injEq, L2.V.bl.injEq, L2.V.ref.injEq, PySem.Str.mk.injEq, Tx.arr1, Tx.str_len, Tx.at_nat, Tx.cut_nat, Tx.find_one,
  and_assoc, Int.ofNat_inj, Nat.add_sub_cancel_left, Lx.take1_eq, decide_eq_true_eq, Bool.not_eq_true', decide_eq_false_iff_not, Int.ofNat_lt, Int.ofNat_le, Bool.false_eq_true, if_false, if_true, List.set_cons_zero, List.set_cons_succ, List.append_nil, List.nil_append, ↓reduceIte, Cm.nat_succ, Cm.nat_add, Cm.nat_two, List.toList_toArray, not_true, not_false_iff, Cm.toArr_inj, Cm.two_one, Cm.tyV_str, Cm.scal_ss, Cm.scal_ii, Cm.scal_bb, Cm.cb_K, reduceCtorEq, false_and, exists_false, or_false, false_or, List.map_cons, List.map_nil, tCallS]
    have key : lexRes CB H (fun x H1 => [x, S [114, 101, 97, 100]].length ≤ sizeLine ∧ ∀ (p : Addr), H1 p = none → Q (V.ref p) (upd H1 p (HO.tup [x, S [114, 101, 97, 100]])))
        (WE (wAs K (Value.ref CB) 3 (fun a cls d => tAsg (tXf a cls d CB "place" (tVar 3)) (gName 2)) (fun x x_1 x_2 x_3 => False)
          { nx := tRet (tTup (tCons (tVar 1) (tCons (tVar 2) tNil))) { nx := fun x H' => Q V.non H', rt := Q }, rt := Q }) [some v, some V.non, some (S [114, 101, 97, 100]), none]) r := by
      cases r with
      | ok ws => exact fun l H1 s1 nl ht => ⟨show 2 ≤ sizeLine by decide, fun p np => kk p _ (s1.trans (same_new np)) (s1.free np) ⟨l, upd_same, toks_same (same_new np) ht⟩⟩
      | error p =>
        intro d H1 s1 nd hd
        refine ⟨true, M.x_BadSource.em, fun _ a na => ?_, fun z => by cases z⟩
        refine ⟨_, rfl, rfl, rfl, d, _, .int p, rfl, hd, rfl, ?_⟩
        refine ⟨_, rfl, _, rfl, show 2 ≤ sizeLine by decide, fun b nb => ?_⟩
        exact kk b _ (s1.trans (same_new nb)) (s1.free nb) upd_same
    refine ⟨v, rfl, ?_⟩
    rcases h with ⟨t, rfl, ht, rfl⟩ | ⟨T, hT, hk, rfl⟩
    · exact .inl ⟨t, rfl, ht, key⟩
    · exact .inr ⟨T, hT, hk, key⟩
end
end W
namespace W
open PySem PySem.Spec PyProof.Rows L2 Cm Lx
abbrev s__law_row_right : Stmt := topS 46
theorem sc__law_row_right : FnScope ["_law_bag_here", "_law_row", "_law_ahead_here", "_law_moved", "_law_kind", "_law_value", "_law_place", "_law_found", "_law_word"] ["_law_bag_here", "_law_row"] (defScope s__law_row_right) := ⟨rfl, rfl, rfl, by decide +kernel, rfl, by decide +kernel, by decide +kernel⟩
abbrev s__law_long_right : Stmt := topS 47
theorem sc__law_long_right : FnScope ["_law_bag_here", "_law_piece", "_law_found", "_law_place"] ["_law_bag_here"] (defScope s__law_long_right) := ⟨rfl, rfl, rfl, by decide +kernel, rfl, by decide +kernel, by decide +kernel⟩
abbrev s__law_right : Stmt := topS 48
theorem sc__law_right : FnScope ["_law_bag_here", "_law_rows", "_law_text", "_law_place", "_law_ahead_here", "_law_things"] ["_law_bag_here"] (defScope s__law_right) := ⟨rfl, rfl, rfl, by decide +kernel, rfl, by decide +kernel, by decide +kernel⟩
abbrev s_law : Stmt := topS 49
theorem sc_law : FnScope ["_law_script", "_law_k"] ["_law_script"] (defScope s_law) := ⟨rfl, rfl, rfl, by decide +kernel, rfl, by decide +kernel, by decide +kernel⟩
structure Ml (P : Program) (w : World) (K : PySem.W.Frag) (mg : Str → Option Value) (base : Heap) (CB : Addr) : Prop where
  mb : Mb K mg
  mc : Mc K mg
  mr : Mr K mg
  md : Md P w K mg base CB
  a__law_row_right : At K mg "_law_row_right" s__law_row_right
  a__law_long_right : At K mg "_law_long_right" s__law_long_right
  a__law_right : At K mg "_law_right" s__law_right
  a_law : At K mg "law" s_law
  g_len : mg "len" = none
  g_all : mg "all" = none
  g_isinstance : mg "isinstance" = none
  g_tuple : mg "tuple" = none
  g_int : mg "int" = none
  g_max : mg "max" = none
  g_min : mg "min" = none
  g_range : mg "range" = none
def sh (n : Nat) (t : Lx.Tok) : Lx.Tok := (t.1, t.2.1, t.2.2 + n)
def vOk : V → Bool
  | .int _ => true
  | .str x => PyData.strOk x
  | _ => false
def tokOk (t : Lx.Tok) : Bool := PyData.strOk ⟨t.1.toArray⟩ && vOk t.2.1
theorem gap_len {g : List Nat} (h : Gap g) : g.length ≤ 1400 := by
  obtain ⟨q, hq, n, hn, rfl⟩ := h
  have key : ∀ q ∈ pieces, ∀ n ∈ counts, (List.replicate n q).flatten.length ≤ 1400 := by decide +kernel
  exact key q hq n hn
def spRowRight : Sp := fun vs H Q _ => ∃ (p r l : Addr) (m : Int) (t : List Nat) (ws : Toks), vs = [.ref p, .ref r] ∧ Bag m H p ∧ m + 1 < 10 ^ 9 ∧ H r = some (.tup [S t, .ref l]) ∧ ToksAt H l ws ∧ t.length ≤ 1000 ∧ ws.length ≤ 1000 ∧ ws.all tokOk = true ∧
  (∀ g, Gap g → wordsOf (g ++ t) = .ok (ws.map (sh g.length))) ∧ ∀ H', But p H H' → Bag (m + 2) H' p → Q (.bl true) H'
section
variable {P : Program} {w : World} {K : PySem.W.Frag} {mg : Str → Option Value} {base : Heap} {CB : Addr}
theorem toks_but {H H' : Hp} {p l : Addr} {ws : Toks} {m : Int} (b : But p H H') (hb : Bag m H p) (h : ToksAt H l ws) : ToksAt H' l ws := by
  obtain ⟨ps, h1, h2⟩ := h
  obtain ⟨A, B, C, h3, _⟩ := hb
  refine ⟨ps, b _ _ (fun z => ?_) h1, Cm.Paired.imp (fun q _ t => ⟨b _ _ (fun z => ?_) t.1, t.2⟩) h2⟩
  · rw [z, h3] at h1
    cases ps <;> simp at h1
  · have := t.1
    rw [z, h3] at this
    cases this
theorem tok_dp {H : Hp} {q : Addr} {t : Lx.Tok} (h : TokAt H q t) (ok : tokOk t = true) : Dp K H (.ref q) (tokD t) := by
  obtain ⟨h1, _⟩ := h
  unfold tokOk at ok
  rw [Bool.and_eq_true] at ok
  refine .tup (sqT h1) (.cons (.str _) (.cons ?_ (.cons (.int _) .nil)))
  cases q : t.2.1 <;> rw [q] at ok <;> first | exact .int _ | exact .str _ | exact absurd ok.2 (by simp [vOk])
theorem toks_dp {H : Hp} : ∀ {ps : List Addr} {ws : Toks}, Paired (TokAt H) ps ws → ws.all tokOk = true → DpAll K H (ps.map V.ref) (ws.map tokD)
  | _, _, .nil, _ => .nil
  | _, _, .cons h r, ok => by
    rw [List.all_cons, Bool.and_eq_true] at ok
    exact .cons (tok_dp h ok.1) (toks_dp r ok.2)
theorem tok_lay {t : Lx.Tok} (ok : tokOk t = true) : (tokD t).canLay0 = true := by
  obtain ⟨k, v, p⟩ := t
  unfold tokOk at ok
  rw [Bool.and_eq_true] at ok
  cases v with
  | int i => simp only [tokD, vD, PyData.canLay0, PyData.canLayAll0, Bool.and_true, ok.1]
  | str x => simp only [tokD, vD, PyData.canLay0, PyData.canLayAll0, Bool.and_true, ok.1, show PyData.strOk x = true from ok.2]
  | _ => exact absurd ok.2 (by simp [vOk])
theorem toks_lay : ∀ {ws : Toks}, ws.all tokOk = true → PyData.canLayAll0 (ws.map tokD) = true
  | [], _ => rfl
  | t :: ws, ok => by
    rw [List.all_cons, Bool.and_eq_true] at ok
    show (PyData.canLay0 (tokD t) && PyData.canLayAll0 (ws.map tokD)) = true
    rw [tok_lay ok.1, toks_lay ok.2]
    rfl
theorem paired_get {α β : Type} {R : α → β → Prop} : ∀ {xs : List α} {ys : List β} {i : Nat} {x : α}, Paired R xs ys → xs[i]? = some x → ∃ y, ys[i]? = some y ∧ R x y
  | _, _, _, _, .nil, h => by simp at h
  | _, _, 0, _, .cons r t, h => by
    simp at h
    subst h
    exact ⟨_, rfl, r⟩
  | _, _, i + 1, _, .cons r t, h => by
    obtain ⟨y, h1, h2⟩ := paired_get (i := i) t (by simpa using h)
    exact ⟨y, by simpa using h1, h2⟩
theorem paired_len {α β : Type} {R : α → β → Prop} : ∀ {xs : List α} {ys : List β}, Paired R xs ys → xs.length = ys.length
  | _, _, .nil => rfl
  | _, _, .cons _ t => by rw [List.length_cons, List.length_cons, paired_len t]
theorem str_app (a b : List Nat) : (⟨a.toArray⟩ : Str) ++ (⟨b.toArray⟩ : Str) = ⟨(a ++ b).toArray⟩ := by
  show (⟨a.toArray ++ b.toArray⟩ : Str) = _
  simp
def foundD (ws : Toks) : PyData := .tuple [.list (ws.map tokD), .str ⟨kRead.toArray⟩]
theorem depth_toks : ∀ (ws : Toks), PyData.depthAll (ws.map tokD) ≤ 2
  | [] => by decide
  | t :: ws => by
    obtain ⟨k, v, p⟩ := t
    have := depth_toks ws
    cases v <;> simp [tokD, vD, PyData.depthAll, PyData.depth] <;> omega
theorem found_shaped {ws : Toks} (ok : ws.all tokOk = true) : SeqAt.shaped (foundD ws) = true := by
  unfold SeqAt.shaped
  rw [Bool.and_eq_true]
  constructor
  · simp only [foundD, PyData.canLay0, PyData.canLayAll0, toks_lay ok, show PyData.strOk ⟨kRead.toArray⟩ = true by decide +kernel]
    rfl
  · have := depth_toks ws
    simp [foundD, PyData.depthAll, PyData.depth]
    omega
theorem sh_ok {ws : Toks} {n : Nat} (ok : ws.all tokOk = true) : (ws.map (sh n)).all tokOk = true := by
  rw [List.all_map]
  exact ok
theorem ok__law_row_right (M : Ml P w K mg base CB) : Ok P w K mg base 12 "_law_row_right" ["_law_bag_here", "_law_row"] spRowRight := by
  refine mk M.a__law_row_right sc__law_row_right (fun _ _ _ _ _ _ us hl => match us, hl with | [_, _], _ => rfl) (fun vs H Q E h => ?_) (fun f cdv A outer s H vs Q E hr h => ?_)
  · obtain ⟨p, r, l, m, t, ws, rfl, _⟩ := h
    rfl
  · obtain ⟨p, r, l, m, t, ws, rfl, hb, hm, hr1, hl, ht, hwl, hok, hw, kk⟩ := h
    refine ⟨_, (pss_cons (ps_asg (pc (ok__law_ahead M.mb M.mc) (hr.mono (by decide)) (by rfl) psb (pa_cons (pv 0) pa_nil)) (pg_name (i := 2) sc__law_row_right.nd rfl (.inr rfl)))
      (pss_cons (ps_setLc (i := 3) (own := [("_law_kind", 4), ("_law_value", 5), ("_law_place", 6)]) (g := (gTup K 3 (gCons (gName 4) (gCons (gName 5) (gCons (gName 6) gNil))))) (by rfl) sc__law_row_right.nd rfl rfl (sw_true rfl rfl rfl (by decide +kernel)) (pi_list (pe_ix ix_tup (pv 1) pe_int (fun _ _ => rfl))) (blkOk_by (own := [("_law_kind", 4), ("_law_value", 5), ("_law_place", 6)]) (N := ["_law_bag_here", "_law_row", "_law_ahead_here", "_law_moved", "_law_kind", "_law_value", "_law_place", "_law_found", "_law_word"]) (sc := defScope s__law_row_right) (by decide +kernel)) (fun _ _ _ _ _ => pg_tup rfl (pgs_cons (pg_name (i := 4) sc__law_row_right.nd rfl (Or.inl rfl)) (pgs_cons (pg_name (i := 5) sc__law_row_right.nd rfl (Or.inl rfl)) (pgs_cons (pg_name (i := 6) sc__law_row_right.nd rfl (Or.inl rfl)) pgs_nil)))) (fun _ _ _ _ _ => pts_nil) (fun _ _ _ _ _ => (pe_tup (pa_cons (pv 4) (pa_cons (pv 5) (pa_cons (pe_op op_add (pv 6) (pe_callB call_len_str (by rfl) M.g_len PySem.boot_len (pa_cons (pv 2) pa_nil))) pa_nil))))))
      (pss_cons (ps_asg (pc (ok__law_told M.md M.mc) (hr.mono (by decide)) (by rfl) psb (pa_cons (pe_op op_add_str (pv 2) (pe_ix ix_tup (pv 1) pe_int (fun _ _ => rfl))) pa_nil)) (pg_name (i := 7) sc__law_row_right.nd rfl (.inl rfl)))
      (pss_one (ps_ret (pe_and (pe_cmpR (op_eqD hr.units) (pv 7) (pe_tup (pa_cons (pv 3) (pa_cons (pe_strL [114, 101, 97, 100]) pa_nil))) (nomark _)) (pe_one (pe_callB (cr_all rfl) (by rfl) M.g_all (by decide +kernel) (pa_cons (pe_lc (own := [("_law_word", 8)]) (g := (gName 8)) (by rfl) sc__law_row_right.nd (pi_list (pe_ix ix_tup (pv 7) pe_int (fun _ _ => rfl))) (blkOk_by (own := [("_law_word", 8)]) (N := ["_law_bag_here", "_law_row", "_law_ahead_here", "_law_moved", "_law_kind", "_law_value", "_law_place", "_law_found", "_law_word"]) (sc := defScope s__law_row_right) (by decide +kernel)) (fun _ _ _ _ _ => pg_name (i := 8) sc__law_row_right.nd rfl (Or.inl rfl)) (fun _ _ _ _ _ => pts_nil) (fun _ _ _ _ _ => (pe_callB (show CallR _ (.builtin "isinstance") (rIsi K) from call_isi) (by rfl) M.g_isinstance (by decide +kernel) (pa_cons (pv 8) (pa_cons (pe_bltn (v := .ty "tuple") (by rfl) M.g_tuple (by decide +kernel) rfl) pa_nil))))) pa_nil))))))))), ?_⟩
    show tSeq _ _ _ [some (.ref p), some (.ref r), none, none, none, none, none, none, none] H
    simp only [L2.tSeq, L2.tRet, L2.tVar, L2.tAnd, L2.tOr, L2.tNot, L2.tTest, L2.tOp, L2.tUn, L2.rU, L2.tCB, L2.tCons, L2.tNil, L2.rIxS, L2.rI0, L2.rI, L2.rEq, L2.rNe, L2.tAug, L2.ipI, L2.tC, L2.tIfS, L2.tIf, L2.tCall, L2.tAsg, L2.gName, L2.tSl, L2.rSlS, L2.tPart, L2.tNoPart, L2.tBM, L2.tBM0, L2.tB, L2.tAndV, L2.tOrV, L2.tNotV, L2.tDrop, L2.tNext, L2.tChain, L2.tPar, L2.tPar3, Cm.tErr, Cm.tGT, L2.tTup, L2.tLst,
  List.getElem?_cons_zero, List.getElem?_cons_succ, Option.some.injEq, exists_eq_left', exists_eq_left, exists_eq', exists_eq, exists_and_left, exists_and_right, exists_const, List.cons.injEq, and_true, true_and, L2.V.str.injEq, L2.V.int.injEq, L2.V.bl.injEq, L2.V.ref.injEq, PySem.Str.mk.injEq, Tx.arr1, Tx.str_len, Tx.at_nat, Tx.cut_nat, Tx.find_one,
  and_assoc, Int.ofNat_inj, Nat.add_sub_cancel_left, Lx.take1_eq, decide_eq_true_eq, Bool.not_eq_true', decide_eq_false_iff_not, Int.ofNat_lt, Int.ofNat_le, Bool.false_eq_true, if_false, if_true, List.set_cons_zero, List.set_cons_succ, List.append_nil, List.nil_append, ↓reduceIte, Cm.nat_succ, Cm.nat_add, Cm.nat_two, List.toList_toArray, not_true, not_false_iff, Cm.toArr_inj, Cm.two_one, Cm.tyV_str, Cm.scal_ss, Cm.scal_ii, Cm.scal_bb, Cm.cb_K, reduceCtorEq, false_and, exists_false, or_false, false_or, List.map_cons, List.map_nil]
    refine ⟨p, m, rfl, hb, hm, fun g H1 bt hb1 hg => ?_⟩
    have hl1 := toks_but bt hb hl
    have hr2 : H1 r = some (HO.tup [S t, V.ref l]) := bt _ _ (fun z => by
      obtain ⟨A, B, C, h3, _⟩ := hb
      rw [z, h3] at hr1
      cases hr1) hr1
    obtain ⟨ps, hl2, hp2⟩ := hl1
    have hgl := gap_len hg
    refine ⟨_, rfl, r, _, 1, .ref l, rfl, rfl, sqT hr2, rfl, l, rfl, ⟨_, sqL hl2⟩, fun D hD => lc_it walk_list (fun i H' => Same H1 H' ∧ ∃ qs : List Addr, H' D = some (.lst (qs.map V.ref)) ∧ Paired (TokAt H') qs ((ws.take i).map (sh g.length))) ⟨same_new hD, [], upd_same, .nil⟩ (fun i H' _ h => sqL (h.1 _ _ hl2)) ?_ ?_⟩
    · rintro i x H2 H3 hi ⟨s1, qs, hD1, hq⟩ ⟨rfl, hx⟩
      rw [List.getElem?_map] at hx
      obtain ⟨q, hq1, rfl⟩ := Option.map_eq_some_iff.mp hx
      obtain ⟨tk, hk1, hk2⟩ := paired_get hp2 hq1
      have hil : i < ws.length := (List.getElem?_eq_some_iff.mp hk1).1
      refine ⟨q, _, rfl, sqT (s1 _ _ hk2.1), rfl, _, _, rfl, _, _, rfl, _, _, rfl, rfl, rfl, ?_⟩
      have ew : (((List.set (wipe [some (V.ref p), some (V.ref r), some (S g), none, none, none, none, none, none] [4, 5, 6]) 4 (some (S tk.1))).set 5 (some tk.2.1)).set 6 (some (V.int (tk.2.2 : Nat)))) = [some (V.ref p), some (V.ref r), some (S g), none, some (S tk.1), some tk.2.1, some (V.int (tk.2.2 : Nat)), none, none] := rfl
      rw [ew]
      simp only [L2.tSeq, L2.tRet, L2.tVar, L2.tAnd, L2.tOr, L2.tNot, L2.tTest, L2.tOp, L2.tUn, L2.rU, L2.tCB, L2.tCons, L2.tNil, L2.rIxS, L2.rI0, L2.rI, L2.rEq, L2.rNe, L2.tAug, L2.ipI, L2.tC, L2.tIfS, L2.tIf, L2.tCall, L2.tAsg, L2.gName, L2.tSl, L2.rSlS, L2.tPart, L2.tNoPart, L2.tBM, L2.tBM0, L2.tB, L2.tAndV, L2.tOrV, L2.tNotV, L2.tDrop, L2.tNext, L2.tChain, L2.tPar, L2.tPar3, Cm.tErr, Cm.tGT, L2.tTup, L2.tLst,
  List.getElem?_cons_zero, List.getElem?_cons_succ, Option.some.injEq, exists_eq_left', exists_eq_left, exists_eq', exists_eq, exists_and_left, exists_and_right, exists_const, List.cons.injEq, and_true, true_and, L2.V.str.injEq, L2.V.int.injEq, L2.V.bl.injEq, L2.V.ref.injEq, PySem.Str.mk.injEq, Tx.arr1, Tx.str_len, Tx.at_nat, Tx.cut_nat, Tx.find_one,
  and_assoc, Int.ofNat_inj, Nat.add_sub_cancel_left, Lx.take1_eq, decide_eq_true_eq, Bool.not_eq_true', decide_eq_false_iff_not, Int.ofNat_lt, Int.ofNat_le, Bool.false_eq_true, if_false, if_true, List.set_cons_zero, List.set_cons_succ, List.append_nil, List.nil_append, ↓reduceIte, Cm.nat_succ, Cm.nat_add, Cm.nat_two, List.toList_toArray, not_true, not_false_iff, Cm.toArr_inj, Cm.two_one, Cm.tyV_str, Cm.scal_ss, Cm.scal_ii, Cm.scal_bb, Cm.cb_K, reduceCtorEq, false_and, exists_false, or_false, false_or, List.map_cons, List.map_nil, tYes]
      refine ⟨szl (by omega), show 3 ≤ sizeLine by decide, fun c nc => ?_⟩
      have hDc : D ≠ c := fun z => by
        rw [z, nc] at hD1
        cases hD1
      refine ⟨_, by rw [upd_ne hDc]; exact hD1, ?_, ?_, qs ++ [c], by rw [upd_same, List.map_append]; rfl, ?_⟩
      · have := paired_len hq
        rw [List.length_map, this, List.length_map, List.length_take]
        exact Nat.lt_of_le_of_lt (show min i (List.length ws) ≤ 1000 by omega) (by decide)
      · intro b o e
        rw [upd_ne (ne_of_none e hD), upd_ne (ne_of_none (s1 _ _ e) nc)]
        exact s1 _ _ e
      · rw [List.take_add_one, hk1, List.map_append]
        refine paired_snoc (Cm.Paired.imp (fun q' tk' h => ⟨?_, h.2⟩) hq) ⟨?_, hk2.2⟩
        · rw [upd_ne (Ne.symm hDc), upd_same]
          rfl
        · rw [upd_ne (fun z => by have h1 := h.1; rw [z, hD1] at h1; cases h1), upd_ne (ne_of_none h.1 nc)]
          exact h.1
    · rintro H2 ⟨s2, qs, hD2, hq2⟩
      rw [List.length_map, paired_len hp2, List.take_of_length_le (Nat.le_refl _)] at hq2
      refine ⟨r, _, 0, S t, rfl, rfl, sqT (s2 _ _ hr2), rfl, _, rfl, _, rfl, ?_, ?_⟩
      · rw [Tx.str_len, Tx.str_len]
        exact szl (by omega)
      · rw [str_app]
        refine ⟨S (g ++ t), _, rfl, .inl ⟨g ++ t, rfl, ?_, rfl⟩, fun a H3 s3 na hT => ?_⟩
        · show (g ++ t).length ≤ 100000
          rw [List.length_append]
          omega
        · rw [hw g hg] at hT
          obtain ⟨l3, ha3, ps3, hl3, hp3⟩ := hT
          refine ⟨show 2 ≤ sizeLine by decide, fun b nb => ?_⟩
          have s4 : Same H3 (upd H3 b (HO.tup [V.ref D, S [114, 101, 97, 100]])) := same_new nb
          have ok := sh_ok (n := g.length) hok
          refine ⟨foundD (ws.map (sh g.length)), foundD (ws.map (sh g.length)), .tup (sqT (s4 _ _ ha3)) (.cons (.lst (sqL (s4 _ _ hl3)) (toks_dp (Cm.Paired.imp (fun _ _ h => ⟨s4 _ _ h.1, h.2⟩) hp3) ok)) (.cons (.str _) .nil)),
            .tup (sqT upd_same) (.cons (.lst (sqL (s4 _ _ (s3 _ _ hD2))) (toks_dp (Cm.Paired.imp (fun _ _ h => ⟨s4 _ _ (s3 _ _ h.1), h.2⟩) hq2) ok)) (.cons (.str _) .nil)), found_shaped ok, found_shaped ok, _, rfl, ?_⟩
          rw [if_pos (PySem.SeqAt.eqv_refl _ (SeqAt.canLay_of_shaped (found_shaped ok)))]
          generalize upd H3 b (HO.tup [V.ref D, S [114, 101, 97, 100]]) = H4 at s4 ⊢
          refine ⟨_, rfl, a, _, 0, .ref l3, rfl, rfl, sqT (s4 _ _ ha3), rfl, l3, rfl, ⟨_, sqL (s4 _ _ hl3)⟩, fun D2 hD2 => lc_it walk_list (fun i H' => Same H4 H' ∧ H' D2 = some (.lst (List.replicate i (V.bl true)))) ⟨same_new hD2, upd_same⟩ (fun i H' _ h => sqL (h.1 _ _ (s4 _ _ hl3))) ?_ ?_⟩
          · rintro i x H5 H6 hi ⟨s5, h5⟩ ⟨rfl, hx⟩
            rw [List.getElem?_map] at hx
            obtain ⟨q, hq1, rfl⟩ := Option.map_eq_some_iff.mp hx
            obtain ⟨tk, hk1, hk2⟩ := paired_get hp3 hq1
            have hil : i < ws.length := by have := (List.getElem?_eq_some_iff.mp hk1).1; rw [List.length_map] at this; exact this
            refine ⟨rfl, ?_⟩
            refine ⟨_, rfl, _, _, _, _, true, rfl, .ty "tuple", .base (.tup (s5 _ _ (s4 _ _ hk2.1))), kit_ty (a := "tuple") (by decide +kernel), _, h5, ?_, ?_, ?_⟩
            · rw [List.length_replicate]
              exact Nat.lt_of_le_of_lt (show i ≤ 1000 by omega) (by decide)
            · intro b o e
              rw [upd_ne (ne_of_none e hD2)]
              exact s5 _ _ e
            · rw [upd_same, List.replicate_succ']
          · rintro H5 ⟨s5, h5⟩
            refine ⟨D2, List.replicate (List.map V.ref ps3).length true, rfl, sqL (by rw [h5, List.map_replicate]), ?_⟩
            have e : (List.replicate (List.map V.ref ps3).length true).all id = true := by simp
            rw [e]
            have sz : Same H1 H5 := ((s2.trans s3).trans s4).trans s5
            exact kk H5 (bt.trans (Cm.Same.but sz)) (hb1.same sz)
end
end W
namespace W
open PySem PySem.Spec PyProof.Rows L2 Cm Lx
/-- what the long texts come to -/
structure LongOk : Prop where
  all : ∀ c ∈ [32, 10, 46], ∃ ws : Toks, wordsOf (List.replicate 2000 c) = .ok ws ∧ ws.length = if c = 46 then 2000 else 0
  over : ∀ c ∈ [32, 10, 46], wordsOf (List.replicate 2001 c) = .error (-1)
  str : ∀ c ∈ [32, 10, 46], wordsOf (39 :: (List.replicate 1998 c ++ [39])) = .ok [(kStr, Sv (List.replicate 1998 c), 0)]
def spLong : Sp := fun vs H Q _ => ∃ (p : Addr) (m : Int), vs = [.ref p] ∧ Bag m H p ∧ m < 10 ^ 9 ∧ ∀ H', But p H H' → Q (.bl true) H'
section
variable {P : Program} {w : World} {K : PySem.W.Frag} {mg : Str → Option Value} {base : Heap} {CB : Addr}
theorem strOk_list (l : List Nat) : PyData.strOk ⟨l.toArray⟩ = l.all (· < 0x110000) := by simp [PyData.strOk]
theorem ok__law_long_right (L : LongOk) (M : Ml P w K mg base CB) : Ok P w K mg base 12 "_law_long_right" ["_law_bag_here"] spLong := by
  refine mk M.a__law_long_right sc__law_long_right (fun _ _ _ _ _ _ us hl => match us, hl with | [_], _ => rfl) (fun vs H Q E h => ?_) (fun f cdv A outer s H vs Q E hr h => ?_)
  · obtain ⟨p, m, rfl, _⟩ := h
    rfl
  · obtain ⟨p, m, rfl, hb, hm, kk⟩ := h
    refine ⟨_, (pss_cons (ps_asg (pc (ok_pk M.mb) (hr.mono (by decide)) (by rfl) psb (pa_cons (pv 0) (pa_cons (pe_lst (pa_cons (pe_strL [32]) (pa_cons (pe_strL [10]) (pa_cons (pe_strL [46]) pa_nil)))) pa_nil))) (pg_name (i := 1) sc__law_long_right.nd rfl (.inl rfl)))
      (pss_cons (ps_asg (pc (ok__law_told M.md M.mc) (hr.mono (by decide)) (by rfl) psb (pa_cons (pe_op op_mulS (pv 1) pe_int) pa_nil)) (pg_tup (by rfl) (pgs_cons (pg_name (i := 2) sc__law_long_right.nd rfl (.inl rfl)) (pgs_cons (pg_name (i := 3) sc__law_long_right.nd rfl (.inl rfl)) pgs_nil))))
      (pss_cons (ps_if (PW.pt (pw_or (pt_cmpR op_ne (pv 3) (pe_strL [114, 101, 97, 100]) (nomark _)) (pw_or1 (pt_cmpR op_ne (pe_callB call_len_seq (by rfl) M.g_len PySem.boot_len (pa_cons (pv 2) pa_nil)) (pe_op op_mul pe_int (pe_callTy call_int1 (by rfl) M.g_int (by decide +kernel) (pa_cons (pe_cmpR op_eq (pv 1) (pe_strL [46]) (nomark _)) pa_nil))) (nomark _))))) (pss_one (ps_ret pe_bl)) pss_nil)
      (pss_one (ps_ret (pe_and (pe_cmpR (op_eqD hr.units) (pc (ok__law_told M.md M.mc) (hr.mono (by decide)) (by rfl) psb (pa_cons (pe_op op_mulS (pv 1) pe_int) pa_nil)) (pe_tup (pa_cons pe_non (pa_cons (pe_un un_neg pe_int) pa_nil))) (nomark _)) (pe_one (pe_cmpR (op_eqD hr.units) (pe_ix ix_tup (pc (ok__law_told M.md M.mc) (hr.mono (by decide)) (by rfl) psb (pa_cons (pe_op op_add_str (pe_op op_add_str (pe_strL [39]) (pe_op op_mulS (pv 1) pe_int)) (pe_strL [39])) pa_nil)) pe_int (fun _ _ => rfl)) (pe_lst (pa_cons (pe_tup (pa_cons (pe_strL [115, 116, 114]) (pa_cons (pe_op op_mulS (pv 1) pe_int) (pa_cons pe_int pa_nil)))) pa_nil)) (nomark _))))))))), ?_⟩
    show tSeq _ _ _ [some (.ref p), none, none, none] H
    simp only [L2.tSeq, L2.tRet, L2.tVar, L2.tAnd, L2.tOr, L2.tNot, L2.tTest, L2.tOp, L2.tUn, L2.rU, L2.tCB, L2.tCons, L2.tNil, L2.rIxS, L2.rI0, L2.rI, L2.rEq, L2.rNe, L2.tAug, L2.ipI, L2.tC, L2.tIfS, L2.tIf, L2.tCall, L2.tAsg, L2.gName, L2.tSl, L2.rSlS, L2.tPart, L2.tNoPart, L2.tBM, L2.tBM0, L2.tB, L2.tAndV, L2.tOrV, L2.tNotV, L2.tDrop, L2.tNext, L2.tChain, L2.tPar, L2.tPar3, Cm.tErr, Cm.tGT, L2.tTup, L2.tLst,
  List.getElem?_cons_zero, List.getElem?_cons_succ, Option.some.injEq, exists_eq_left', exists_eq_left, exists_eq', exists_eq, exists_and_left, exists_and_right, exists_const, List.cons.injEq, and_true, true_and, L2.V.str.injEq, L2.V.int.injEq, L2.V.bl.injEq, L2.V.ref.injEq, PySem.Str.mk.injEq, Tx.arr1, Tx.str_len, Tx.at_nat, Tx.cut_nat, Tx.find_one,
  and_assoc, Int.ofNat_inj, Nat.add_sub_cancel_left, Lx.take1_eq, decide_eq_true_eq, Bool.not_eq_true', decide_eq_false_iff_not, Int.ofNat_lt, Int.ofNat_le, Bool.false_eq_true, if_false, if_true, List.set_cons_zero, List.set_cons_succ, List.append_nil, List.nil_append, ↓reduceIte, Cm.nat_succ, Cm.nat_add, Cm.nat_two, List.toList_toArray, not_true, not_false_iff, Cm.toArr_inj, Cm.two_one, Cm.tyV_str, Cm.scal_ss, Cm.scal_ii, Cm.scal_bb, Cm.cb_K, reduceCtorEq, false_and, exists_false, or_false, false_or, List.map_cons, List.map_nil]
    refine ⟨show 3 ≤ sizeLine by decide, fun q1 n1 => ⟨p, q1, m, _, rfl, hb.same (same_new n1), hm, sqL upd_same, hb.np n1, by decide, by decide, fun x H1 bt1 hb1 hx => ?_⟩⟩
    have hx' : x ∈ ([32, 10, 46].map fun c => S [c]) := hx
    obtain ⟨c, hc, rfl⟩ := List.mem_map.mp hx'
    have ef : ∀ n : Nat, (List.replicate n [c]).flatten = List.replicate n c := fun n => by simp
    have one : ∀ n : Nat, n ≤ 100000 → [c].length * n ≤ 100000 := fun n h => by rw [List.length_singleton, Nat.one_mul]; exact h
    obtain ⟨ws, hw, hwl⟩ := L.all c hc
    refine ⟨[c], rfl, 2000, rfl, one _ (by decide), by decide, S (List.replicate 2000 c), .ok ws, by rw [ef], .inl ⟨List.replicate 2000 c, rfl, by show (List.replicate 2000 c).length ≤ 100000; rw [List.length_replicate]; decide, hw.symm⟩, fun a H2 s2 na hT => ?_⟩
    obtain ⟨l, ha, ps, hl, hp⟩ := hT
    refine ⟨a, _, rfl, sqT ha, rfl, _, _, rfl, _, _, rfl, rfl, ?_⟩
    simp only [L2.tSeq, L2.tRet, L2.tVar, L2.tAnd, L2.tOr, L2.tNot, L2.tTest, L2.tOp, L2.tUn, L2.rU, L2.tCB, L2.tCons, L2.tNil, L2.rIxS, L2.rI0, L2.rI, L2.rEq, L2.rNe, L2.tAug, L2.ipI, L2.tC, L2.tIfS, L2.tIf, L2.tCall, L2.tAsg, L2.gName, L2.tSl, L2.rSlS, L2.tPart, L2.tNoPart, L2.tBM, L2.tBM0, L2.tB, L2.tAndV, L2.tOrV, L2.tNotV, L2.tDrop, L2.tNext, L2.tChain, L2.tPar, L2.tPar3, Cm.tErr, Cm.tGT, L2.tTup, L2.tLst,
  List.getElem?_cons_zero, List.getElem?_cons_succ, Option.some.injEq, exists_eq_left', exists_eq_left, exists_eq', exists_eq, exists_and_left, exists_and_right, exists_const, List.cons.injEq, and_true, true_and, L2.V.str.injEq, L2.V.int.injEq, L2.V.bl.injEq, L2.V.ref.injEq, PySem.Str.mk.injEq, Tx.arr1, Tx.str_len, Tx.at_nat, Tx.cut_nat, Tx.find_one,
  and_assoc, Int.ofNat_inj, Nat.add_sub_cancel_left, Lx.take1_eq, decide_eq_true_eq, Bool.not_eq_true', decide_eq_false_iff_not, Int.ofNat_lt, Int.ofNat_le, Bool.false_eq_true, if_false, if_true, List.set_cons_zero, List.set_cons_succ, List.append_nil, List.nil_append, ↓reduceIte, Cm.nat_succ, Cm.nat_add, Cm.nat_two, List.toList_toArray, not_true, not_false_iff, Cm.toArr_inj, Cm.two_one, Cm.tyV_str, Cm.scal_ss, Cm.scal_ii, Cm.scal_bb, Cm.cb_K, reduceCtorEq, false_and, exists_false, or_false, false_or, List.map_cons, List.map_nil, kRead, tOr, tIfS]
    have hpl : (List.map V.ref ps).length = if c = 46 then 2000 else 0 := by rw [List.length_map, paired_len hp, hwl]
    refine ⟨_, .inl (sqL hl), ?_, ?_⟩
    · exact .inl ⟨by decide, by decide⟩
    rw [if_neg (show ¬ ¬ (((List.map V.ref ps).length : Nat) : Int) = 2000 * if c = 46 then 1 else 0 from fun z => z (by
      rw [hpl]
      split <;> rfl))]
    refine ⟨2001, rfl, one _ (by decide), by decide, S (List.replicate 2001 c), .error (-1), by rw [ef], .inl ⟨List.replicate 2001 c, rfl, by show (List.replicate 2001 c).length ≤ 100000; rw [List.length_replicate]; decide, (L.over c hc).symm⟩, fun a3 H3 s3 na3 hT3 => ?_⟩
    have hT3' : H3 a3 = some (.tup [.non, .int (-1)]) := hT3
    refine ⟨show 2 ≤ sizeLine by decide, fun b nb => ?_⟩
    have s4 : Same H3 (upd H3 b (HO.tup [V.non, V.int (-1)])) := same_new nb
    refine ⟨.tuple [.none, .int (-1)], .tuple [.none, .int (-1)], .tup (sqT (s4 _ _ hT3')) (.cons .non (.cons (.int _) .nil)), .tup (sqT upd_same) (.cons .non (.cons (.int _) .nil)), by decide +kernel, by decide +kernel, _, rfl, ?_⟩
    rw [if_pos (by decide +kernel)]
    generalize upd H3 b (HO.tup [V.non, V.int (-1)]) = H4 at s4 ⊢
    refine ⟨1998, rfl, one _ (by decide), by decide, ?_⟩
    rw [ef]
    have e1 : (⟨#[39]⟩ : Str) ++ ⟨(List.replicate 1998 c).toArray⟩ = ⟨(39 :: List.replicate 1998 c).toArray⟩ := str_app [39] (List.replicate 1998 c)
    have e2 : (⟨(39 :: List.replicate 1998 c).toArray⟩ : Str) ++ ⟨#[39]⟩ = ⟨(39 :: (List.replicate 1998 c ++ [39])).toArray⟩ := str_app (39 :: List.replicate 1998 c) [39]
    have e3 : (List.replicate 1998 c).length = 1998 := List.length_replicate
    have tl : (39 :: (List.replicate 1998 c ++ [39])).length = 2000 := by
      rw [List.length_cons, List.length_append, e3]
      rfl
    rw [e1, e2]
    refine ⟨?_, ?_, S (39 :: (List.replicate 1998 c ++ [39])), _, rfl, .inl ⟨_, rfl, ?_, (L.str c hc).symm⟩, fun a5 H5 s5 na5 hT5 => ?_⟩
    · rw [e3]
      decide
    · rw [Tx.str_len, List.length_cons, e3]
      decide
    · show (39 :: (List.replicate 1998 c ++ [39])).length ≤ 100000
      rw [tl]
      decide
    obtain ⟨l5, ha5, ps5, hl5, hp5⟩ := hT5
    refine ⟨a5, _, 0, .ref l5, rfl, rfl, sqT ha5, rfl, 1998, rfl, one _ (by decide), by decide, show 3 ≤ sizeLine by decide, fun b6 n6 => ⟨show 1 ≤ sizeLine by decide, fun b7 n7 => ?_⟩⟩
    rw [ef] at n7 ⊢
    have tok : [((kStr, Sv (List.replicate 1998 c), 0) : Lx.Tok)].all tokOk = true := by
      have h2 : PyData.strOk ⟨(List.replicate 1998 c).toArray⟩ = true := by
        rw [strOk_list, List.all_eq_true]
        intro x hx
        rw [(List.mem_replicate.mp hx).2]
        exact (show ∀ c ∈ [32, 10, 46], decide (c < 0x110000) = true by decide) c hc
      rw [List.all_cons, List.all_nil, Bool.and_true]
      unfold tokOk
      rw [Bool.and_eq_true]
      exact ⟨show PyData.strOk ⟨kStr.toArray⟩ = true by decide +kernel, h2⟩
    have s6 : Same H5 (upd H5 b6 (HO.tup [S [115, 116, 114], S (List.replicate 1998 c), V.int 0])) := same_new n6
    have h6 : (upd H5 b6 (HO.tup [S [115, 116, 114], S (List.replicate 1998 c), V.int 0])) b6 = _ := upd_same
    generalize upd H5 b6 (HO.tup [S [115, 116, 114], S (List.replicate 1998 c), V.int 0]) = H6 at s6 h6 n7 ⊢
    have s7 : Same H6 (upd H6 b7 (HO.lst [V.ref b6])) := same_new n7
    have h7 : upd H6 b7 (HO.lst [V.ref b6]) b7 = _ := upd_same
    generalize upd H6 b7 (HO.lst [V.ref b6]) = H7 at s7 h7 ⊢
    have sh : SeqAt.shaped (.list ([((kStr, Sv (List.replicate 1998 c), 0) : Lx.Tok)].map tokD)) = true := by
      have := found_shaped tok
      unfold SeqAt.shaped at this ⊢
      rw [Bool.and_eq_true] at this ⊢
      refine ⟨?_, by show decide (_ ≤ 64) = true; simp [tokD, vD, PyData.depthAll, PyData.depth]⟩
      show PyData.canLayAll0 _ = true
      exact toks_lay tok
    refine ⟨.list ([((kStr, Sv (List.replicate 1998 c), 0) : Lx.Tok)].map tokD), .list ([((kStr, Sv (List.replicate 1998 c), 0) : Lx.Tok)].map tokD), .lst (sqL (s7 _ _ (s6 _ _ hl5))) (toks_dp (Cm.Paired.imp (fun _ _ h => ⟨s7 _ _ (s6 _ _ h.1), h.2⟩) hp5) tok),
      .lst (sqL h7) (.cons (.tup (sqT (s7 _ _ h6)) (.cons (.str _) (.cons (.str _) (.cons (.int _) .nil)))) .nil), sh, sh, ?_⟩
    rw [SeqAt.eqv_refl _ (SeqAt.canLay_of_shaped sh)]
    exact kk _ (((Cm.Same.but (same_new n1)).trans bt1).trans (Cm.Same.but (((((s2.trans s3).trans s4).trans s5).trans s6).trans s7)))
end
end W
namespace W
open PySem PySem.Spec PyProof.Rows L2 Cm Lx
/-- what the rows come to -/
structure RowsOk : Prop where
  rows : ∀ r ∈ r_names ++ r_strings ++ r_numbers ++ r_arrays, ∀ g, Gap g → wordsOf (g ++ r.1) = .ok (r.2.map (sh g.length))
  bad : ∀ r ∈ r_bad, ∀ g, Gap g → wordsOf (g ++ r.1) = .error ((r.2 + g.length : Nat) : Int)
  tab : ∀ z ∈ [[9], [97, 9, 98], [39, 9, 39]], wordsOf z = .error (-1)
def spRight : Sp := fun vs H Q _ => ∃ (p : Addr) (m : Int), vs = [.ref p] ∧ Bag m H p ∧ m + 10 < 10 ^ 9 ∧ ∀ H', But p H H' → Q (.bl true) H'
section
variable {P : Program} {w : World} {K : PySem.W.Frag} {mg : Str → Option Value} {base : Heap} {CB : Addr}
theorem lits_mem {G : Hp} {α : Type} {f : α → PyData} {rs : List α} {xs : List V} {x : V} (h : Lits G xs (rs.map f)) (hx : x ∈ xs) : ∃ r ∈ rs, Lit G x (f r) := by
  obtain ⟨i, hi⟩ := List.mem_iff_getElem?.mp hx
  obtain ⟨d, h1, h2⟩ := h.get hi
  rw [List.getElem?_map] at h1
  obtain ⟨r, hr, rfl⟩ := Option.map_eq_some_iff.mp h1
  exact ⟨r, List.mem_of_getElem? hr, h2⟩
theorem lit_int {G : Hp} {v : V} {i : Int} (h : Lit G v (.int i)) : v = .int i := by
  cases h
  rfl
theorem lit_v {G : Hp} {u v : V} (h : Lit G u (vD v)) (ok : vOk v = true) : u = v := by
  cases v with
  | int i => exact lit_int h
  | str x => exact lit_str h
  | _ => exact absurd ok (by simp [vOk])
theorem vOk_flat {v : V} (ok : vOk v = true) : flatV v = true ∧ ∀ l, scal v (S l) = true := by
  cases v with
  | int i => exact ⟨rfl, fun _ => rfl⟩
  | str x => exact ⟨rfl, fun _ => rfl⟩
  | _ => exact absurd ok (by simp [vOk])
theorem lit_tok {G H : Hp} {u : V} {t : Lx.Tok} (h : Lit G u (tokD t)) (s : Same G H) (ok : tokOk t = true) : ∃ q, u = .ref q ∧ TokAt H q t := by
  obtain ⟨k, v, p⟩ := t
  unfold tokOk at ok
  rw [Bool.and_eq_true] at ok
  cases h with
  | tup h1 h2 =>
    cases h2 with
    | cons a1 r1 =>
      cases r1 with
      | cons a2 r2 =>
        cases r2 with
        | cons a3 r3 =>
          cases r3
          cases lit_str a1
          cases lit_v a2 ok.2
          cases lit_int a3
          exact ⟨_, rfl, s _ _ h1, vOk_flat ok.2⟩
theorem lit_toks {G H : Hp} (s : Same G H) : ∀ {us : List V} {ws : Toks}, Lits G us (ws.map tokD) → ws.all tokOk = true → ∃ ps : List Addr, us = ps.map V.ref ∧ Paired (TokAt H) ps ws
  | [], [], _, _ => ⟨[], rfl, .nil⟩
  | [], _ :: _, h, _ => by cases h
  | _ :: _, [], h, _ => by cases h
  | u :: us, t :: ws, h, ok => by
    rw [List.all_cons, Bool.and_eq_true] at ok
    cases h with
    | cons h1 h2 =>
      obtain ⟨q, rfl, hq⟩ := lit_tok h1 s ok.1
      obtain ⟨ps, rfl, hp⟩ := lit_toks s h2 ok.2
      exact ⟨q :: ps, rfl, .cons hq hp⟩
theorem lit_row {G H : Hp} {u : V} {r : List Nat × Toks} (h : Lit G u (rowD r)) (s : Same G H) (ok : r.2.all tokOk = true) : ∃ a l, u = .ref a ∧ H a = some (.tup [S r.1, .ref l]) ∧ ToksAt H l r.2 := by
  cases h with
  | tup h1 h2 =>
    cases h2 with
    | cons a1 r1 =>
      cases r1 with
      | cons a2 r2 =>
        cases r2
        cases lit_str a1
        cases a2 with
        | lst b1 b2 =>
          obtain ⟨ps, rfl, hp⟩ := lit_toks (rm_sub.trans s) b2 ok
          exact ⟨_, _, rfl, s _ _ h1, ps, s _ _ b1, hp⟩
theorem lit_bad {G H : Hp} {u : V} {r : List Nat × Nat} (h : Lit G u (badD r)) (s : Same G H) : ∃ a, u = .ref a ∧ H a = some (.tup [S r.1, .int (r.2 : Nat)]) := by
  cases h with
  | tup h1 h2 =>
    cases h2 with
    | cons a1 r1 =>
      cases r1 with
      | cons a2 r2 =>
        cases r2
        cases lit_str a1
        cases lit_int a2
        exact ⟨_, rfl, s _ _ h1⟩
theorem rows_small : ∀ r ∈ r_names ++ r_strings ++ r_numbers ++ r_arrays, r.1.length ≤ 1000 ∧ r.2.length ≤ 1000 ∧ r.2.all tokOk = true := by decide +kernel
theorem bad_small : ∀ r ∈ r_bad, r.1.length ≤ 1000 := by decide +kernel
/-- a row is drawn -/
theorem pk_rows {H0 H : Hp} {v : V} {α : Type} {f : α → PyData} {rs : List α} {p : Addr} {m : Int} {Q : VK} {E : XK} (q : RowsV H0 (rs.map f) v H) (hb : Bag m H0 p) (hm : m < 10 ^ 9) (h0 : 0 < rs.length)
    (k : ∀ x r G H', r ∈ rs → But p H0 H' → Bag (m + 1) H' p → Lit G x (f r) → Same G H' → Q x H') : spPk K [.ref p, v] H Q E := by
  obtain ⟨l, xs, G, rfl, nl, s, hl, gl, nG, sG, lt, hx⟩ := q
  have e := lt.length
  rw [List.length_map] at e
  refine ⟨p, l, m, xs, rfl, hb.same s, hm, sqL hl, hb.np nl, by omega, by omega, fun x H' bt hb' hx' => ?_⟩
  obtain ⟨r, hr, hL⟩ := lits_mem lt hx'
  exact k x r G H' hr ((Cm.Same.but s).trans bt) hb' hL (fun b o e => bt _ _ (hb.np (nG _ _ e)) (sG _ _ e))
theorem ok__law_right (R : RowsOk) (L : LongOk) (M : Ml P w K mg base CB) : Ok P w K mg base 13 "_law_right" ["_law_bag_here"] spRight := by
  refine mk M.a__law_right sc__law_right (fun _ _ _ _ _ _ us hl => match us, hl with | [_], _ => rfl) (fun vs H Q E h => ?_) (fun f cdv A outer s H vs Q E hr h => ?_)
  · obtain ⟨p, m, rfl, _⟩ := h
    rfl
  · obtain ⟨p, m, rfl, hb, hm, kk⟩ := h
    refine ⟨_, (pss_cons (ps_asg (pe_op op_cat (pe_op op_cat (pe_op op_cat (pc0 (ok__law_names M.mr) (hr.mono (by decide)) (by rfl) psb) (pc0 (ok__law_strings M.mr) (hr.mono (by decide)) (by rfl) psb)) (pc0 (ok__law_numbers M.mr) (hr.mono (by decide)) (by rfl) psb)) (pc0 (ok__law_arrays M.mr) (hr.mono (by decide)) (by rfl) psb)) (pg_name (i := 1) sc__law_right.nd rfl (.inl rfl)))
      (pss_cons (ps_if (pt_not (pt_val (pc (ok__law_row_right M) (hr.mono (by decide)) (by rfl) psb (pa_cons (pv 0) (pa_cons (pc (ok_pk M.mb) (hr.mono (by decide)) (by rfl) psb (pa_cons (pv 0) (pa_cons (pv 1) pa_nil))) pa_nil))))) (pss_one (ps_ret pe_bl)) pss_nil)
      (pss_cons (ps_asg (pc (ok_pk M.mb) (hr.mono (by decide)) (by rfl) psb (pa_cons (pv 0) (pa_cons (pc0 (ok__law_bad M.mr) (hr.mono (by decide)) (by rfl) psb) pa_nil))) (pg_tup (by rfl) (pgs_cons (pg_name (i := 2) sc__law_right.nd rfl (.inl rfl)) (pgs_cons (pg_name (i := 3) sc__law_right.nd rfl (.inl rfl)) pgs_nil))))
      (pss_cons (ps_asg (pc (ok__law_ahead M.mb M.mc) (hr.mono (by decide)) (by rfl) psb (pa_cons (pv 0) pa_nil)) (pg_name (i := 4) sc__law_right.nd rfl (.inl rfl)))
      (pss_cons (ps_if (pt_cmpR (op_neD hr.units) (pc (ok__law_told M.md M.mc) (hr.mono (by decide)) (by rfl) psb (pa_cons (pe_op op_add_str (pv 4) (pv 2)) pa_nil)) (pe_tup (pa_cons pe_non (pa_cons (pe_op op_add (pv 3) (pe_callB call_len_str (by rfl) M.g_len PySem.boot_len (pa_cons (pv 4) pa_nil))) pa_nil))) (nomark _)) (pss_one (ps_ret pe_bl)) pss_nil)
      (pss_cons (ps_asg (pe_lst (pa_cons pe_non (pa_cons pe_int (pa_cons pe_bl (pa_cons (pe_lst (pa_cons (pe_strL [97]) pa_nil)) (pa_cons (pe_tup (pa_cons (pe_strL [97]) pa_nil)) (pa_cons (pe_disp (pps_cons (pe_strL [97]) pe_int pps_nil) rfl rfl (by simp) (by decide)) (pa_cons (pe_strL [9]) (pa_cons (pe_strL [97, 9, 98]) (pa_cons (pe_strL [39, 9, 39]) (pa_cons (pe_op op_pow pe_int pe_int) (pa_cons (pe_tup (pa_cons (pe_strL []) (pa_cons pe_int pa_nil))) pa_nil)))))))))))) (pg_name (i := 5) sc__law_right.nd rfl (.inl rfl)))
      (pss_one (ps_ret (pe_cmpR (op_eqD hr.units) (pc (ok__law_told M.md M.mc) (hr.mono (by decide)) (by rfl) psb (pa_cons (pc (ok_pk M.mb) (hr.mono (by decide)) (by rfl) psb (pa_cons (pv 0) (pa_cons (pv 5) pa_nil))) pa_nil)) (pe_tup (pa_cons pe_non (pa_cons (pe_un un_neg pe_int) pa_nil))) (nomark _)))))))))), ?_⟩
    show tSeq _ _ _ [some (.ref p), none, none, none, none, none] H
    simp only [L2.tSeq, L2.tRet, L2.tVar, L2.tAnd, L2.tOr, L2.tNot, L2.tTest, L2.tOp, L2.tUn, L2.rU, L2.tCB, L2.tCons, L2.tNil, L2.rIxS, L2.rI0, L2.rI, L2.rEq, L2.rNe, L2.tAug, L2.ipI, L2.tC, L2.tIfS, L2.tIf, L2.tCall, L2.tAsg, L2.gName, L2.tSl, L2.rSlS, L2.tPart, L2.tNoPart, L2.tBM, L2.tBM0, L2.tB, L2.tAndV, L2.tOrV, L2.tNotV, L2.tDrop, L2.tNext, L2.tChain, L2.tPar, L2.tPar3, Cm.tErr, Cm.tGT, L2.tTup, L2.tLst,
  List.getElem?_cons_zero, List.getElem?_cons_succ, Option.some.injEq, exists_eq_left', exists_eq_left, exists_eq', exists_eq, exists_and_left, exists_and_right, exists_const, List.cons.injEq, and_true, true_and, L2.V.str.injEq, L2.V.int.injEq, L2.V.bl.injEq, L2.V.ref.injEq, PySem.Str.mk.injEq, Tx.arr1, Tx.str_len, Tx.at_nat, Tx.cut_nat, Tx.find_one,
  and_assoc, Int.ofNat_inj, Nat.add_sub_cancel_left, Lx.take1_eq, decide_eq_true_eq, Bool.not_eq_true', decide_eq_false_iff_not, Int.ofNat_lt, Int.ofNat_le, Bool.false_eq_true, if_false, if_true, List.set_cons_zero, List.set_cons_succ, List.append_nil, List.nil_append, ↓reduceIte, Cm.nat_succ, Cm.nat_add, Cm.nat_two, List.toList_toArray, not_true, not_false_iff, Cm.toArr_inj, Cm.two_one, Cm.tyV_str, Cm.scal_ss, Cm.scal_ii, Cm.scal_bb, Cm.cb_K, reduceCtorEq, false_and, exists_false, or_false, false_or, List.map_cons, List.map_nil, spRows]
    intro v1 H1 q1 v2 H2 q2
    refine q1.cat q2 (by decide) fun x3 H3 q3 => ?_
    intro v4 H4 q4
    refine q3.cat q4 (by decide) fun x5 H5 q5 => ?_
    intro v6 H6 q6
    refine q5.cat q6 (by decide) fun x7 H7 q7 => ?_
    rw [← List.map_append, ← List.map_append, ← List.map_append] at q7
    refine pk_rows q7 hb (by omega) (by decide) fun x r G H8 hr8 bt8 hb8 hL8 sG8 => ?_
    obtain ⟨k1, k2, k3⟩ := rows_small r hr8
    obtain ⟨a, l, rfl, ha, hl⟩ := lit_row hL8 sG8 k3
    refine ⟨p, a, l, m + 1, r.1, r.2, rfl, hb8, by omega, ha, hl, k1, k2, k3, R.rows r hr8, fun H9 bt9 hb9 => ?_⟩
    refine ⟨true, rfl, ?_⟩
    rw [if_neg (by decide)]
    intro v10 H10 q10
    refine pk_rows q10 hb9 (by omega) (by decide) fun x rb G2 H11 hr11 bt11 hb11 hL11 sG11 => ?_
    have k4 := bad_small rb hr11
    obtain ⟨a2, rfl, ha2⟩ := lit_bad hL11 sG11
    refine ⟨a2, _, rfl, sqT ha2, rfl, _, _, rfl, _, _, rfl, rfl, ?_⟩
    simp only [L2.tSeq, L2.tRet, L2.tVar, L2.tAnd, L2.tOr, L2.tNot, L2.tTest, L2.tOp, L2.tUn, L2.rU, L2.tCB, L2.tCons, L2.tNil, L2.rIxS, L2.rI0, L2.rI, L2.rEq, L2.rNe, L2.tAug, L2.ipI, L2.tC, L2.tIfS, L2.tIf, L2.tCall, L2.tAsg, L2.gName, L2.tSl, L2.rSlS, L2.tPart, L2.tNoPart, L2.tBM, L2.tBM0, L2.tB, L2.tAndV, L2.tOrV, L2.tNotV, L2.tDrop, L2.tNext, L2.tChain, L2.tPar, L2.tPar3, Cm.tErr, Cm.tGT, L2.tTup, L2.tLst,
  List.getElem?_cons_zero, List.getElem?_cons_succ, Option.some.injEq, exists_eq_left', exists_eq_left, exists_eq', exists_eq, exists_and_left, exists_and_right, exists_const, List.cons.injEq, and_true, true_and, L2.V.str.injEq, L2.V.int.injEq, L2.V.bl.injEq, L2.V.ref.injEq, PySem.Str.mk.injEq, Tx.arr1, Tx.str_len, Tx.at_nat, Tx.cut_nat, Tx.find_one,
  and_assoc, Int.ofNat_inj, Nat.add_sub_cancel_left, Lx.take1_eq, decide_eq_true_eq, Bool.not_eq_true', decide_eq_false_iff_not, Int.ofNat_lt, Int.ofNat_le, Bool.false_eq_true, if_false, if_true, List.set_cons_zero, List.set_cons_succ, List.append_nil, List.nil_append, ↓reduceIte, Cm.nat_succ, Cm.nat_add, Cm.nat_two, List.toList_toArray, not_true, not_false_iff, Cm.toArr_inj, Cm.two_one, Cm.tyV_str, Cm.scal_ss, Cm.scal_ii, Cm.scal_bb, Cm.cb_K, reduceCtorEq, false_and, exists_false, or_false, false_or, List.map_cons, List.map_nil]
    refine ⟨p, _, rfl, hb11, by omega, fun g H12 bt12 hb12 hg => ?_⟩
    have hgl := gap_len hg
    refine ⟨_, rfl, by rw [Tx.str_len]; exact szl (by omega), S (g ++ rb.1), _, by rw [str_app], .inl ⟨_, rfl, by show (g ++ rb.1).length ≤ 100000; rw [List.length_append]; omega, (R.bad rb hr11 g hg).symm⟩, fun a13 H13 s13 na13 hT13 => ?_⟩
    have hT13' : H13 a13 = some (.tup [.non, .int ((rb.2 + g.length : Nat) : Int)]) := hT13
    refine ⟨_, rfl, by rw [Tx.str_len]; exact szl (by omega), show 2 ≤ sizeLine by decide, fun b14 n14 => ?_⟩
    rw [Tx.str_len]
    have s14 : Same H13 (upd H13 b14 (HO.tup [V.non, V.int ((rb.2 + g.length : Nat) : Int)])) := same_new n14
    refine ⟨.tuple [.none, .int ((rb.2 + g.length : Nat) : Int)], .tuple [.none, .int ((rb.2 + g.length : Nat) : Int)], .tup (sqT (s14 _ _ hT13')) (.cons .non (.cons (.int _) .nil)), .tup (sqT upd_same) (.cons .non (.cons (.int _) .nil)), rfl, rfl, _, rfl, ?_⟩
    rw [SeqAt.eqv_refl _ rfl, if_neg (by decide)]
    generalize upd H13 b14 (HO.tup [V.non, V.int ((rb.2 + g.length : Nat) : Int)]) = H14 at s14 ⊢
    refine ⟨show 1 ≤ sizeLine by decide, fun c1 m1 => ⟨show 1 ≤ sizeLine by decide, fun c2 m2 => ?_⟩⟩
    have t1 : Same H14 (upd H14 c1 (HO.lst [S [97]])) := same_new m1
    have g1 : upd H14 c1 (HO.lst [S [97]]) c1 = _ := upd_same
    generalize upd H14 c1 (HO.lst [S [97]]) = I1 at t1 g1 m2 ⊢
    have t2 : Same I1 (upd I1 c2 (HO.tup [S [97]])) := same_new m2
    have g2 : upd I1 c2 (HO.tup [S [97]]) c2 = _ := upd_same
    generalize upd I1 c2 (HO.tup [S [97]]) = I2 at t2 g2 ⊢
    intro c3 m3
    refine ⟨upd_same, [(.inr ⟨[97].toArray⟩, .int 1)], rfl, by decide, ⟨by decide, by decide, by decide⟩, show 2 ≤ sizeLine by decide, fun c4 m4 => ?_⟩
    have t3 : Same I2 (upd (upd I2 c3 (.dK [])) c3 (.dK (mergeK [] [(.inr ⟨[97].toArray⟩, .int 1)]))) := fun b o e => by
      rw [upd_ne (ne_of_none e m3), upd_ne (ne_of_none e m3)]
      exact e
    have g3 : (upd (upd I2 c3 (.dK [])) c3 (.dK (mergeK [] [(.inr ⟨[97].toArray⟩, .int 1)]))) c3 = _ := upd_same
    generalize upd (upd I2 c3 (.dK [])) c3 (.dK (mergeK [] [(.inr ⟨[97].toArray⟩, .int 1)])) = I3 at t3 g3 m4 ⊢
    refine ⟨show 11 ≤ sizeLine by decide, fun c5 m5 => ?_⟩
    have t4 : Same I3 (upd I3 c4 (HO.tup [S [], V.int 0])) := same_new m4
    have g4 : upd I3 c4 (HO.tup [S [], V.int 0]) c4 = _ := upd_same
    generalize upd I3 c4 (HO.tup [S [], V.int 0]) = I4 at t4 g4 m5 ⊢
    have t5 : Same I4 (upd I4 c5 (HO.lst [V.non, V.int 3, V.bl true, V.ref c1, V.ref c2, V.ref c3, S [9], S [97, 9, 98], S [39, 9, 39], V.int (10 ^ Int.toNat 60), V.ref c4])) := same_new m5
    have g5 : upd I4 c5 (HO.lst [V.non, V.int 3, V.bl true, V.ref c1, V.ref c2, V.ref c3, S [9], S [97, 9, 98], S [39, 9, 39], V.int (10 ^ Int.toNat 60), V.ref c4]) c5 = _ := upd_same
    generalize upd I4 c5 (HO.lst [V.non, V.int 3, V.bl true, V.ref c1, V.ref c2, V.ref c3, S [9], S [97, 9, 98], S [39, 9, 39], V.int (10 ^ Int.toNat 60), V.ref c4]) = I5 at t5 g5 ⊢
    have u4 : Same H12 I4 := ((((s13.trans s14).trans t1).trans t2).trans t3).trans t4
    have hb5 : Bag (m + 1 + 2 + 1 + 2) I5 p := hb12.same (u4.trans t5)
    have no : ∀ {c : Addr} {o : HO}, I4 c = none → c ≠ p := fun h => (hb12.same u4).np h
    refine ⟨p, c5, _, _, rfl, hb5, by omega, sqL g5, (hb12.same u4).np m5, show 0 < 11 by decide, show 11 ≤ 100000 by decide, fun x H16 bt16 hb16 hx16 => ?_⟩
    have e1 := t5 _ _ (t4 _ _ (t3 _ _ (t2 _ _ g1)))
    have e2 := t5 _ _ (t4 _ _ (t3 _ _ g2))
    have e3 := t5 _ _ (t4 _ _ g3)
    have e4 := t5 _ _ g4
    have nf : ∀ {c : Addr} {o : HO} {A B C : Int}, I5 c = some o → o ≠ .lst [.int A, .int B, .int C] → I5 p = some (.lst [.int A, .int B, .int C]) → c ≠ p := fun h1 h2 h3 z => by
      rw [z, h3] at h1
      cases h1
      exact h2 rfl
    obtain ⟨A0, B0, C0, hp0, _⟩ := hb5
    have f1 := bt16 _ _ (nf e1 (by simp) hp0) e1
    have f2 := bt16 _ _ (nf e2 (by simp) hp0) e2
    have f3 := bt16 _ _ (nf e3 (by simp) hp0) e3
    have f4 := bt16 _ _ (nf e4 (by simp) hp0) e4
    have told : (∃ t, x = S t ∧ BT t ∧ (.error (-1) : Except Int Toks) = wordsOf t) ∨ ∃ T, TyX K H16 x (.type T) ∧ kitB T "str" = some false ∧ (.error (-1) : Except Int Toks) = .error (-1) := by
      have tb : ∀ z ∈ [[9], [97, 9, 98], [39, 9, 39]], BT z ∧ (.error (-1) : Except Int Toks) = wordsOf z := fun z hz => ⟨(show ∀ z ∈ [[9], [97, 9, 98], [39, 9, 39]], z.length ≤ 100000 by decide) z hz, (R.tab z hz).symm⟩
      simp only [List.mem_cons, List.not_mem_nil, or_false] at hx16
      rcases hx16 with rfl | rfl | rfl | rfl | rfl | rfl | rfl | rfl | rfl | rfl | rfl
      · exact .inr ⟨_, .base .non, by decide +kernel, rfl⟩
      · exact .inr ⟨_, .base (.int _), by decide +kernel, rfl⟩
      · exact .inr ⟨_, .base (.bl _), by decide +kernel, rfl⟩
      · exact .inr ⟨_, .base (.lst f1), by decide +kernel, rfl⟩
      · exact .inr ⟨_, .base (.tup f2), by decide +kernel, rfl⟩
      · exact .inr ⟨_, .base (.dK f3), by decide +kernel, rfl⟩
      · exact .inl ⟨_, rfl, tb _ (by decide)⟩
      · exact .inl ⟨_, rfl, tb _ (by decide)⟩
      · exact .inl ⟨_, rfl, tb _ (by decide)⟩
      · exact .inr ⟨_, .base (.int _), by decide +kernel, rfl⟩
      · exact .inr ⟨_, .base (.tup f4), by decide +kernel, rfl⟩
    refine ⟨x, _, rfl, told, fun a17 H17 s17 na17 hT17 => ?_⟩
    have hT17' : H17 a17 = some (.tup [.non, .int (-1)]) := hT17
    refine ⟨show 2 ≤ sizeLine by decide, fun b18 n18 => ?_⟩
    have s18 : Same H17 (upd H17 b18 (HO.tup [V.non, V.int (-1)])) := same_new n18
    refine ⟨.tuple [.none, .int (-1)], .tuple [.none, .int (-1)], .tup (sqT (s18 _ _ hT17')) (.cons .non (.cons (.int _) .nil)), .tup (sqT upd_same) (.cons .non (.cons (.int _) .nil)), rfl, rfl, ?_⟩
    rw [SeqAt.eqv_refl _ rfl]
    refine kk _ ?_
    exact (((((bt8.trans bt9).trans bt11).trans bt12).trans (Cm.Same.but (u4.trans t5))).trans bt16).trans (Cm.Same.but (s17.trans s18))
end
end W
namespace W
open PySem PySem.Spec PyProof.Rows L2 Cm Lx
def spLaw (K : PySem.W.Frag) : Sp := fun vs H Q _ => ∃ (a : Addr) (ns : List Int), vs = [.ref a] ∧ SqL K H a (ns.map V.int) ∧ ∀ H', Q (.bl true) H'
section
variable {P : Program} {w : World} {K : PySem.W.Frag} {mg : Str → Option Value} {base : Heap} {CB : Addr}
theorem seq_but {p a : Addr} {H H1 H2 : Hp} {xs : List V} (h : SqL K H a xs) (s : Same H H1) (np : H p = none) (b : But p H1 H2) : SqL K H2 a xs := by
  rcases h with (h | ⟨o, h⟩) | h
  · exact .inl (.inl (b _ _ (ne_of_none h np) (s _ _ h)))
  · exact .inl (.inr ⟨o, b _ _ (ne_of_none h np) (s _ _ h)⟩)
  · exact .inr h
theorem ok_law (R : RowsOk) (L : LongOk) (M : Ml P w K mg base CB) : Ok P w K mg base 14 "law" ["_law_script"] (spLaw K) := by
  refine mk M.a_law sc_law (fun _ _ _ _ _ _ us hl => match us, hl with | [_], _ => rfl) (fun vs H Q E h => ?_) (fun f cdv A outer s H vs Q E hr h => ?_)
  · obtain ⟨a, ns, rfl, _⟩ := h
    rfl
  · obtain ⟨a, ns, rfl, hs, kk⟩ := h
    refine ⟨_, (pss_cons (ps_for (passes_of rfl) rfl (pi_range1 (by rfl) M.g_range (pa_cons (pe_callB (call_max2 rfl) (by rfl) M.g_max (by decide +kernel) (pa_cons pe_int (pa_cons (pe_callB (call_min2 rfl) (by rfl) M.g_min (by decide +kernel) (pa_cons (pe_callB call_len_seq (by rfl) M.g_len PySem.boot_len (pa_cons (pv 0) pa_nil)) (pa_cons pe_int pa_nil))) pa_nil))) pa_nil)) (pg_name (i := 1) sc_law.nd rfl (.inl rfl))
      (pss_one (ps_if (pt_not (pt_val (pc (ok__law_right R L M) (hr.mono (by decide)) (by rfl) psb (pa_cons (pc (ok__law_bag M.mb) (hr.mono (by decide)) (by rfl) psb (pa_cons (pv 0) (pa_cons (pv 1) pa_nil))) pa_nil)))) (pss_one (ps_ret pe_bl)) pss_nil)))
      (pss_one (ps_ret (pc (ok__law_long_right L M) (hr.mono (by decide)) (by rfl) psb (pa_cons (pc (ok__law_bag M.mb) (hr.mono (by decide)) (by rfl) psb (pa_cons (pv 0) (pa_cons pe_int pa_nil))) pa_nil))))), ?_⟩
    show tSeq _ _ _ [some (.ref a), none] H
    have fin : ∀ H1, SqL K H1 a (ns.map V.int) → spBag K [.ref a, .int 0] H1 (fun x H2 => spLong [x] H2 Q E) E := fun H1 h1 =>
      ⟨a, ns, 0, rfl, h1, by decide, by decide, fun p H2 A B s2 np hp b0 b1 => ⟨p, 0, rfl, ⟨A, B, 0, hp, b0, b1, by decide, by decide⟩, by decide, fun H3 _ => kk H3⟩⟩
    refine ⟨_, rfl, a, _, rfl, .inl hs, _, _, rfl, _, _, rfl, _, rfl, ?_, ?_, ?_⟩
    · rw [List.length_map]
      split <;> split <;> omega
    · rw [List.length_map]
      split <;> split <;> omega
    have hn : (if (if (40 : Int) < (((ns.map V.int).length : Nat) : Int) then (40 : Int) else (((ns.map V.int).length : Nat) : Int)) > 1 then (if (40 : Int) < (((ns.map V.int).length : Nat) : Int) then (40 : Int) else (((ns.map V.int).length : Nat) : Int)) else 1).toNat ≤ 40 := by
      split <;> split <;> omega
    refine for_it walk_range (fun i σ H' => ∃ v, σ = [some (.ref a), v] ∧ SqL K H' a (ns.map V.int)) ⟨none, rfl, hs⟩ (fun _ _ _ _ _ => trivial) ?_ ?_
    · rintro i x σ H1 H2 hi ⟨v, rfl, h1⟩ ⟨rfl, rfl⟩
      have hi' : i < 40 := Nat.lt_of_lt_of_le hi hn
      refine ⟨_, rfl, _, rfl, a, ns, 0 + (i : Int), rfl, h1, by omega, by omega, fun p H3 A B s3 np hp b0 b1 => ?_⟩
      refine ⟨p, 61 * (0 + (i : Int)), rfl, ⟨A, B, _, hp, b0, b1, by omega, Int.le_refl _⟩, by omega, fun H4 bt4 => ?_⟩
      refine ⟨true, rfl, ?_⟩
      exact ⟨_, rfl, seq_but h1 s3 np bt4⟩
    · rintro σ H1 ⟨v, rfl, h1⟩
      exact ⟨_, rfl, fin H1 h1⟩
end
end W
namespace W
open PySem PySem.Spec PyProof.Rows L2 Cm Lx
/-! ### the lexer over a text with a gap ahead -/
def lexR (r : List Nat) (p : Nat) (ws : Toks) (wi : List Bool) : Except Nat Toks := lexF r.length r p ws wi
theorem lexR_nil (p : Nat) (ws : Toks) (wi : List Bool) : lexR [] p ws wi = .ok ws := rfl
theorem lexR_drop {c : Nat} {q : List Nat} {n p : Nat} {ws : Toks} {wi : List Bool} (h : 0 < n) : lexF q.length ((c :: q).drop n) p ws wi = lexR ((c :: q).drop n) p ws wi :=
  lexF_more _ _ _ _ _ (by rw [List.length_drop, List.length_cons]; omega)
theorem lexR_cons (c : Nat) (q : List Nat) (p : Nat) (ws : Toks) (wi : List Bool) : lexR (c :: q) p ws wi =
    if c = 32 ∨ c = 10 then lexR q (p + 1) ws wi
    else if c = 34 then (match commentLen (c :: q) with
      | none => .error p
      | some n => lexR ((c :: q).drop n) (p + n) ws wi)
    else match wordAt (c :: q) (mayNeg ws wi) with
      | none => .error p
      | some (k, v, n) => lexR ((c :: q).drop n) (p + n) (ws ++ [(k, v, p)]) (noteSign wi k v) := by
  show lexF (q.length + 1) (c :: q) p ws wi = _
  simp only [lexF]
  split
  · rfl
  · split
    · cases hc : commentLen (c :: q) with
      | none => rfl
      | some n => exact lexR_drop (by have := commentLen_le hc; omega)
    · cases hc : wordAt (c :: q) (mayNeg ws wi) with
      | none => rfl
      | some tk =>
        obtain ⟨k, v, n⟩ := tk
        exact lexR_drop (wordAt_le hc).1
/-- places moved -/
def shE (d : Nat) : Except Nat Toks → Except Nat Toks
  | .ok ws => .ok (ws.map (sh d))
  | .error p => .error (p + d)
theorem mayNeg_sh (d : Nat) (ws : Toks) (wi : List Bool) : mayNeg (ws.map (sh d)) wi = mayNeg ws wi := by
  unfold mayNeg
  rw [List.getLast?_map]
  cases ws.getLast? with
  | none => rfl
  | some t => rfl
theorem lexF_sh (d : Nat) : ∀ (f : Nat) (r : List Nat) (p : Nat) (ws : Toks) (wi : List Bool), lexF f r (p + d) (ws.map (sh d)) wi = shE d (lexF f r p ws wi)
  | 0, _, _, _, _ => rfl
  | f + 1, [], _, _, _ => rfl
  | f + 1, c :: q, p, ws, wi => by
    simp only [lexF, mayNeg_sh]
    have e : ∀ n, p + d + n = p + n + d := fun n => by omega
    split
    · rw [e]
      exact lexF_sh d f _ _ _ _
    · split
      · cases commentLen (c :: q) with
        | none => rfl
        | some n =>
          show lexF f _ (p + d + n) _ _ = _
          rw [e]
          exact lexF_sh d f _ _ _ _
      · cases wordAt (c :: q) (mayNeg ws wi) with
        | none => rfl
        | some tk =>
          obtain ⟨k, v, n⟩ := tk
          show lexF f _ (p + d + n) _ _ = _
          rw [e]
          have := lexF_sh d f ((c :: q).drop n) (p + n) (ws ++ [(k, v, p)]) (noteSign wi k v)
          rw [List.map_append] at this
          exact this
def Skips (q : List Nat) : Prop := ∀ r p ws wi, lexR (q ++ r) p ws wi = lexR r (p + q.length) ws wi
theorem skips_nil : Skips [] := fun _ _ _ _ => rfl
theorem Skips.app {a b : List Nat} (ha : Skips a) (hb : Skips b) : Skips (a ++ b) := fun r p ws wi => by
  rw [List.append_assoc, ha, hb, List.length_append, Nat.add_assoc]
theorem skips_blank {c : Nat} (h : c = 32 ∨ c = 10) : Skips [c] := fun r p ws wi => by
  show lexR (c :: r) p ws wi = _
  rw [lexR_cons, if_pos h]
  rfl
theorem find_quote : ∀ (b r : List Nat), (∀ c ∈ b, c ≠ 34) → (b ++ 34 :: r).findIdx? (· == 34) = some b.length
  | [], r, _ => by simp [List.findIdx?_cons]
  | c :: b, r, h => by
    rw [List.cons_append, List.findIdx?_cons, find_quote b r fun x hx => h x (List.mem_cons_of_mem _ hx)]
    have : (c == 34) = false := by simpa using h c List.mem_cons_self
    rw [this]
    rfl
theorem skips_note {b : List Nat} (h : ∀ c ∈ b, c ≠ 34) : Skips (34 :: b ++ [34]) := fun r p ws wi => by
  have e : 34 :: b ++ [34] ++ r = 34 :: (b ++ 34 :: r) := by simp
  rw [e, lexR_cons, if_neg (by decide), if_pos rfl]
  have e2 : commentLen (34 :: (b ++ 34 :: r)) = some (b.length + 2) := by
    unfold commentLen
    rw [List.drop_succ_cons, List.drop_zero, find_quote b r h]
    rfl
  rw [e2]
  show lexR ((34 :: (b ++ 34 :: r)).drop (b.length + 2)) (p + (b.length + 2)) ws wi = _
  have e3 : (34 :: (b ++ 34 :: r)).drop (b.length + 2) = r := by
    rw [List.drop_succ_cons, ← List.drop_drop, List.drop_append_of_le_length (Nat.le_refl _), List.drop_length]
    rfl
  rw [e3]
  simp
theorem skips_rep {q : List Nat} (h : Skips q) : ∀ n, Skips (List.replicate n q).flatten
  | 0 => skips_nil
  | n + 1 => by
    rw [List.replicate_succ, List.flatten_cons]
    exact h.app (skips_rep h n)
theorem skips_piece : ∀ q ∈ pieces, Skips q := by
  intro q hq
  simp only [pieces, List.mem_cons, List.not_mem_nil, or_false] at hq
  rcases hq with rfl | rfl | rfl | rfl | rfl | rfl | rfl
  · exact skips_nil
  · exact skips_blank (.inl rfl)
  · exact skips_blank (.inr rfl)
  · exact skips_note (b := [99]) (by decide)
  · exact (skips_note (b := [39, 35, 40]) (by decide)).app ((skips_blank (c := 32) (.inl rfl)).app (skips_blank (c := 10) (.inr rfl)))
  · exact (skips_blank (c := 32) (.inl rfl)).app (skips_note (b := []) (by decide))
  · exact skips_note (b := [97, 10, 98]) (by decide)
theorem gap_skips {g : List Nat} (h : Gap g) : Skips g := by
  obtain ⟨q, hq, n, _, rfl⟩ := h
  exact skips_rep (skips_piece q hq) n
theorem gap_okc {g : List Nat} (h : Gap g) : g.all okc = true := by
  obtain ⟨q, hq, n, _, rfl⟩ := h
  have key : ∀ q ∈ pieces, ∀ c ∈ q, okc c = true := by decide +kernel
  rw [List.all_eq_true]
  intro c hc
  obtain ⟨l, hl, hcl⟩ := List.mem_flatten.mp hc
  rw [(List.mem_replicate.mp hl).2] at hcl
  exact key q hq c hcl
theorem gap_lex {g t : List Nat} (h : Gap g) : lex (g ++ t) = shE g.length (lex t) := by
  show lexR (g ++ t) 0 [] [] = _
  rw [gap_skips h]
  exact lexF_sh g.length t.length t 0 [] []
def okE : Except Nat Toks → Except Int Toks
  | .ok ws => .ok ws
  | .error p => .error (p : Int)
theorem gap_words {g t : List Nat} (h : Gap g) (hk : t.all okc = true) (hl : t.length ≤ 600) : wordsOf (g ++ t) = okE (shE g.length (lex t)) := by
  have := gap_len h
  unfold wordsOf
  rw [if_pos ⟨by rw [List.all_append, gap_okc h, hk]; rfl, by rw [List.length_append]; omega⟩, gap_lex h]
  cases shE g.length (lex t) <;> rfl
def okIs (t : List Nat) (ws : Toks) : Bool := (match lex t with
  | .ok us => decide (us = ws)
  | .error _ => false) && t.all okc && decide (t.length ≤ 600)
def badIs (t : List Nat) (p : Nat) : Bool := (match lex t with
  | .ok _ => false
  | .error q => decide (q = p)) && t.all okc && decide (t.length ≤ 600)
theorem rows_lex : ∀ r ∈ r_names ++ r_strings ++ r_numbers ++ r_arrays, okIs r.1 r.2 = true := by decide +kernel
theorem bad_lex : ∀ r ∈ r_bad, badIs r.1 r.2 = true := by decide +kernel
theorem rowsOk : RowsOk where
  rows := fun r hr g hg => by
    have h := rows_lex r hr
    unfold okIs at h
    rw [Bool.and_eq_true, Bool.and_eq_true] at h
    rw [gap_words hg h.1.2 (of_decide_eq_true h.2)]
    have h1 := h.1.1
    cases e : lex r.1 with
    | ok us =>
      rw [e] at h1
      rw [of_decide_eq_true h1]
      rfl
    | error q =>
      rw [e] at h1
      cases h1
  bad := fun r hr g hg => by
    have h := bad_lex r hr
    unfold badIs at h
    rw [Bool.and_eq_true, Bool.and_eq_true] at h
    rw [gap_words hg h.1.2 (of_decide_eq_true h.2)]
    have h1 := h.1.1
    cases e : lex r.1 with
    | ok us =>
      rw [e] at h1
      cases h1
    | error q =>
      rw [e] at h1
      rw [of_decide_eq_true h1]
      rfl
  tab := fun z hz => by
    unfold wordsOf
    rw [if_neg (fun h => by
      have := h.1
      exact absurd this ((show ∀ z ∈ [[9], [97, 9, 98], [39, 9, 39]], ¬ z.all okc = true by decide) z hz))]
/-! ### the long texts -/
theorem tick_rep {c : Nat} (h : c ≠ 39) : ∀ n, tick (List.replicate n c ++ [39]) = some (n + 1)
  | 0 => rfl
  | n + 1 => by
    have ih := tick_rep h n
    rw [List.replicate_succ, List.cons_append]
    cases e : List.replicate n c ++ [39] with
    | nil => simp at e
    | cons d r =>
      rw [e] at ih
      simp only [tick]
      rw [if_neg h, ih]
      rfl
theorem repl_rep {c : Nat} (h : c ≠ 39) : ∀ n, StrLaws.replL [39, 39] [39] (List.replicate n c) = List.replicate n c
  | 0 => StrLaws.replL_nil
  | n + 1 => by
    rw [List.replicate_succ, StrLaws.replL_miss, repl_rep h n]
    intro z
    rw [List.length_cons, List.take_succ_cons] at z
    exact h (List.cons.inj z).1
theorem word_dot (r : List Nat) (b : Bool) : wordAt (46 :: r) b = some (kSign, Sv [46], 1) := by
  have hh : (46 :: r).headD 0 = 46 := rfl
  have h2 : intLen (46 :: r) b = 0 := by
    unfold intLen
    have e : ¬ (b = true ∧ (46 :: r).headD 0 = 45) := fun z => by
      rw [hh] at z
      exact absurd z.2 (by decide)
    have e2 : runLen kDIGITS (46 :: r) = 0 := by
      rw [runLen_cons]
      exact if_neg (by decide)
    simp only [if_neg e, List.drop_zero, e2]
    rfl
  have h3 : firstOf kOPERATORS_FIRST (46 :: r) = [] := by simp [firstOf, kOPERATORS_FIRST, List.find?, List.isPrefixOf]
  have h4 : firstOf kSIGNS_FIRST (46 :: r) = [46] := by simp [firstOf, kSIGNS_FIRST, List.find?, List.isPrefixOf]
  have h5 : signWord (46 :: r) = some (kSign, Sv [46], 1) := by
    unfold signWord
    rw [h3, h4, if_pos rfl, if_neg (by decide)]
    rfl
  show (if (46 :: r).headD 0 ∈ kLETTERS then nameWord (46 :: r) else if (46 :: r).headD 0 = 39 then strWord (46 :: r) else if (46 :: r).headD 0 = 35 then symWord (46 :: r) else if 0 < intLen (46 :: r) b then some (kInt, .int (intOf ((46 :: r).take (intLen (46 :: r) b))), intLen (46 :: r) b) else signWord (46 :: r)) = _
  rw [h2, if_neg (show ¬ (46 :: r).headD 0 ∈ kLETTERS by rw [hh]; decide), if_neg (show ¬ (46 :: r).headD 0 = 39 by rw [hh]; decide), if_neg (show ¬ (46 :: r).headD 0 = 35 by rw [hh]; decide), if_neg (by decide), h5]
theorem dots : ∀ n p ws wi, ∃ us : Toks, lexR (List.replicate n 46) p ws wi = .ok us ∧ us.length = ws.length + n
  | 0, p, ws, wi => ⟨ws, rfl, rfl⟩
  | n + 1, p, ws, wi => by
    rw [List.replicate_succ, lexR_cons, if_neg (by decide), if_neg (by decide), word_dot]
    obtain ⟨us, h1, h2⟩ := dots n (p + 1) (ws ++ [(kSign, Sv [46], p)]) (noteSign wi kSign (Sv [46]))
    refine ⟨us, h1, ?_⟩
    rw [h2, List.length_append]
    simp only [List.length_cons, List.length_nil]
    omega
theorem blanks {c : Nat} (h : c = 32 ∨ c = 10) (n : Nat) : lex (List.replicate n c) = .ok [] := by
  have e : List.replicate n c = (List.replicate n [c]).flatten ++ [] := by simp
  show lexR (List.replicate n c) 0 [] [] = _
  rw [e, skips_rep (skips_blank h) n]
  rfl
theorem okc_rep {c n : Nat} (h : okc c = true) : (List.replicate n c).all okc = true := by
  rw [List.all_eq_true]
  intro x hx
  rw [(List.mem_replicate.mp hx).2]
  exact h
theorem signs_ok : ∀ c ∈ [32, 10, 46], okc c = true ∧ c ≠ 39 := by decide
theorem longOk : LongOk where
  all := fun c hc => by
    obtain ⟨k1, k2⟩ := signs_ok c hc
    unfold wordsOf
    rw [if_pos ⟨okc_rep k1, by rw [List.length_replicate]; decide⟩]
    by_cases h : c = 32 ∨ c = 10
    · rw [blanks h]
      exact ⟨[], rfl, by rw [if_neg (by omega)]; rfl⟩
    · have e : c = 46 := by
        simp only [List.mem_cons, List.not_mem_nil, or_false] at hc
        omega
      subst e
      obtain ⟨us, h1, h2⟩ := dots 2000 0 [] []
      have h1' : lex (List.replicate 2000 46) = .ok us := h1
      rw [h1']
      exact ⟨us, rfl, by rw [h2, if_pos rfl]; rfl⟩
  over := fun c hc => by
    unfold wordsOf
    rw [if_neg (fun h => absurd h.2 (by rw [List.length_replicate]; decide))]
  str := fun c hc => by
    obtain ⟨k1, k2⟩ := signs_ok c hc
    have hl : (39 :: (List.replicate 1998 c ++ [39])).length = 2000 := by
      rw [List.length_cons, List.length_append, List.length_replicate]
      rfl
    unfold wordsOf
    rw [if_pos ⟨by rw [List.all_cons, List.all_append, okc_rep k1]; rfl, by rw [hl]; exact Nat.le_refl _⟩]
    have hw : wordAt (39 :: (List.replicate 1998 c ++ [39])) true = some (kStr, Sv (List.replicate 1998 c), 2000) := by
      have hh : (39 :: (List.replicate 1998 c ++ [39])).headD 0 = 39 := rfl
      unfold wordAt
      simp only []
      rw [if_neg (show ¬ (39 :: (List.replicate 1998 c ++ [39])).headD 0 ∈ kLETTERS by rw [hh]; decide), if_pos hh]
      unfold strWord strLen
      rw [List.drop_succ_cons, List.drop_zero, tick_rep k2]
      show some (kStr, Sv (unq ((39 :: (List.replicate 1998 c ++ [39])).take (1998 + 1 + 1))), 1998 + 1 + 1) = _
      rw [List.take_of_length_le (by rw [hl]; exact Nat.le_refl _)]
      unfold unq
      rw [hl, List.drop_succ_cons, List.drop_zero, List.take_append_of_le_length (by rw [List.length_replicate]; decide), List.take_of_length_le (by rw [List.length_replicate]; decide), repl_rep k2]
    have : lex (39 :: (List.replicate 1998 c ++ [39])) = .ok [(kStr, Sv (List.replicate 1998 c), 0)] := by
      show lexR _ 0 [] [] = _
      rw [lexR_cons, if_neg (by decide), if_neg (by decide)]
      have hm : mayNeg [] [] = true := rfl
      rw [hm, hw]
      show lexR ((39 :: (List.replicate 1998 c ++ [39])).drop 2000) _ _ _ = _
      rw [List.drop_eq_nil_of_le (by rw [hl]; exact Nat.le_refl _)]
      rfl
    rw [this]
end W
/-! the head's facts: defs, constants, own error classes -/
namespace Hd
open PySem PySem.Spec PyProof.Rows L2 Cm He
/-- the j-th statement of a class -/
def clsAt (st : Stmt) (j : Nat) : Stmt := match st with
  | .ClassDef _ _ _ body _ _ _ _ _ _ _ => body.getD j (.Pass ⟨0, 0, 0, 0⟩)
  | _ => .Pass ⟨0, 0, 0, 0⟩
abbrev FnC : Type := Option (Str × Str × Arguments × FuncBody × Scope × Addr × List Str × Addr)
def fnC (K : PySem.W.Frag) (a : Addr) : FnC := match K.lookup a with
  | some ⟨_, _, .func fd, _⟩ => some (fd.name, fd.qualname, fd.params, fd.body, fd.scope, fd.globals, fd.closure.map (·.1), fd.builtins)
  | _ => none
/-- an own error class of one field: its name, the field, the __init__ -/
structure ErrD where
  x : Str
  f : Str
  qual : Str
  st : Stmt
def ErrD.val (d : ErrD) : FnC := some ("__init__", d.qual, defArgs d.st, .stmts (defBody d.st), defScope d.st, mainGlobals, ["__class__"], builtinsNs)
def oexB (K : PySem.W.Frag) (C : Addr) : Bool := match K.lookup C with
  | some ⟨.type t, _, .cls cd, sl⟩ => (match cd.mro, sl.toList with
    | .ref C' :: bm, [_, _, _, _, some (.builtin n), _] => decide (t = "type") && (decide (C' = C) && (decide (n = "ValueError.__new__") && (!cd.hasDel && (cd.hasDict && PySem.HandSPX.refsVE bm))))
    | _, _ => false)
  | _ => false
theorem oexB_ok {K : PySem.W.Frag} {C : Addr} (h : oexB K C = true) : ∃ nm q N bs bm sn sub ab col dd k0 k1 k2 k3 k5, K.lookup C = some (excClassObj nm q C N bs bm true sn sub ab col dd k0 k1 k2 k3 k5 "ValueError.__new__") ∧ PySem.HandSPX.refsVE bm = true := by
  unfold oexB at h
  split at h
  · rename_i t dd cd sl ho
    split at h
    · rename_i C' bm k0 k1 k2 k3 n k5 hm hs
      simp only [Bool.and_eq_true, decide_eq_true_eq, Bool.not_eq_true'] at h
      obtain ⟨rfl, rfl, rfl, hdel, hdict, hv⟩ := h
      obtain ⟨nm, bs, mro, ns, qn, hd, sn, sub, ab, col, del⟩ := cd
      dsimp only at hm hdel hdict
      subst hm hdel hdict
      have hsl : sl = #[k0, k1, k2, k3, some (.builtin "ValueError.__new__"), k5] := by
        obtain ⟨l⟩ := sl
        simp only at hs
        rw [hs]
      subst hsl
      exact ⟨nm, qn, ns, bs, bm, sn, sub, ab, col, dd, k0, k1, k2, k3, k5, ho, hv⟩
    · cases h
  · cases h
/-- the cell and the code of an __init__ -/
def iniB (P : Program) (K : PySem.W.Frag) (C fI : Addr) (qual : Str) : Bool := match K.lookup fI with
  | some ⟨_, _, .func fd, _⟩ => (match fd.closure, fd.code, fd.defaults with
    | [(_, cc)], .ref cda, .none => (match K.lookup cc, K.lookup cda with
      | some ⟨_, _, .cell (some (.ref C')), _⟩, some ⟨_, _, .fields vs, _⟩ => (match (vs[2]? : Option Value) with
        | some (.str file _) => decide (C' = C) && (((P.main.file : Str) == file) && PySem.W.codeIn K (.ref cda) qual)
        | _ => false)
      | _, _ => false)
    | _, _, _ => false)
  | _ => false
def errB (P : Program) (K : PySem.W.Frag) (d : ErrD) : Bool :=
  oexB K (ga K d.x) && (eqO (PySem.W.findIn K (.ref (ga K d.x)) "__setattr__") (some (some (.builtin "object.__setattr__"))) &&
  (decide (PySem.W.subIn K (.ref (ga K d.x)) (.type "BaseException") = some true) && (decide (PySem.W.typeIn K (.ref (ga K d.x)) = some (.type "type")) && (PySem.W.keepIn K (.ref (ga K d.x)) &&
  (eqO (PySem.W.findIn K (.ref (ga K d.x)) "__init__") (some (some (.ref (ma K (ga K d.x) "__init__")))) && (decide (PySem.W.typeIn K (.ref (ma K (ga K d.x) "__init__")) = some (.type "function")) &&
  (iniB P K (ga K d.x) (ma K (ga K d.x) "__init__") d.qual && (decide (PySem.W.mroIn K (ga K d.x) (.ref (ga K d.x)) = some true) && (eqO (PySem.W.nsIn K cStatics "thirdparty.any") (some none) &&
  (eqO (PySem.W.ks_superIn K (ga K d.x) (ga K d.x) "__init__") (some (some (.builtin "ValueError.__init__"))) && (decide (PySem.W.subIn K (.ref (ga K d.x)) (.type "ValueError") = some true) &&
  (xfB K (ga K d.x) && (eqO (PySem.W.findIn K (.ref (ga K d.x)) d.f) (some none) && decide (PySem.W.exmOne K (.ref (ga K d.x)) (.ref (ga K d.x)) = some true))))))))))))))
/-- what the __init__ promises -/
abbrev spIni (C : Addr) (f : Str) : Sp := fun vs H Q _ => ∃ (a : Addr) (v : V), vs = [.ref a, v] ∧ H a = some (exo a C none) ∧ ∀ dx, H dx = none → dx ≠ a → Q .non (upd (upd H dx (exd dx [(f, v)])) a (exo a C (some dx)))
/-- what is to be shown of an __init__'s text, once each -/
def IniOk (d : ErrD) : Prop := ∀ (P : Program) (w : World) (K : PySem.W.Frag) (mg : Str → Option Value) (base : Heap) (C cc cda fI : Addr) (dV kV doc pm ct oc : Value) (an od : Option Addr) (osl : Array (Option Value)),
  Xs.SupC P K mg C cc cda → OexC K C → PySem.W.findIn K (.ref C) d.f = some none → PySem.W.codeIn K (.ref cda) d.qual = true →
  K.lookup fI = some ⟨oc, od, .func (PySem.W.fnX "__init__" d.qual (defArgs d.st) (defBody d.st) (defScope d.st) [("__class__", cc)] dV kV doc pm an (.ref cda) ct), osl⟩ →
  FnOk P w K mg base CX0 1 fI (PySem.W.fnX "__init__" d.qual (defArgs d.st) (defBody d.st) (defScope d.st) [("__class__", cc)] dV kV doc pm an (.ref cda) ct) ["self", d.f] (spIni C d.f)
/-- and that it binds its two parameters -/
def IniB (d : ErrD) : Prop := ∀ (cc : Addr) (kV doc pm cdv ct : Value) (an : Option Addr) (us : List Value), us.length = 2 → bindArgs (PySem.W.fnX "__init__" d.qual (defArgs d.st) (defBody d.st) (defScope d.st) [("__class__", cc)] .none kV doc pm an cdv ct) ⟨us, []⟩ = pure ((["self", d.f] : List Str).zip us)
theorem errB_ok {P : Program} {w : World} {K : PySem.W.Frag} {mg : Str → Option Value} {base : Heap} {d : ErrD} (h : errB P K d = true) (e : fnC K (ma K (ga K d.x) "__init__") = d.val) (hI : IniOk d) (hB : IniB d) (hm : mg d.x = some (.ref (ga K d.x))) (hs : mg "super" = none)
    (ht : (P.main.scope.names.lookup ("super" : Str)).isSome = false) : Err1 P w K mg base d.x d.f (ga K d.x) := by
  unfold errB at h
  simp only [Bool.and_eq_true, decide_eq_true_eq] at h
  obtain ⟨h1, h2, h3, h4, h5, h6, h7, h8, h9, h10, h11, h12, h13, h14, h15⟩ := h
  have T : OexC K (ga K d.x) := ⟨oexB_ok h1, eqO_ok h2, h3, h4, h5⟩
  generalize ma K (ga K d.x) "__init__" = fI at h6 h7 h8 e
  unfold iniB at h8
  split at h8
  · rename_i oc od fd osl lk
    split at h8
    · rename_i y cc cda q1 q2 q3
      split at h8
      · rename_i z1 z2 C' z3 z4 z5 vs z6 l1 l2
        split at h8
        · rename_i file tf hv
          simp only [Bool.and_eq_true, decide_eq_true_eq] at h8
          obtain ⟨rfl, hf, hc⟩ := h8
          unfold fnC at e
          rw [lk] at e
          obtain ⟨n1, n2, n3, n4, n5, n6, n7, n8, n9, n10, n11, n12, n13, n14, n15⟩ := fd
          dsimp only at q1 q2 q3
          subst q1 q2 q3
          have e2 : (some (n1, n2, n3, n4, n5, n6, [y], n15) : FnC) = (some (("__init__" : Str), d.qual, defArgs d.st, FuncBody.stmts (defBody d.st), defScope d.st, mainGlobals, [("__class__" : Str)], builtinsNs) : FnC) := e
          simp only [Option.some.injEq, Prod.mk.injEq, List.cons.injEq, and_true] at e2
          obtain ⟨g1, g2, g3, g4, g5, g6, g7, g8⟩ := e2
          subst g1 g2 g3 g4 g5 g6 g7 g8
          have S : Xs.SupC P K mg (ga K d.x) cc cda := ⟨⟨_, _, _, l1⟩, ⟨_, _, _, _, _, _, l2, hv, hf⟩, h9, hs, eqO_ok h10, eqO_ok h11, h12, ht⟩
          refine ⟨hm, T, ⟨fI, _, eqO_ok h6, h7, ?_, hI P w K mg base (ga K d.x) cc cda fI _ _ _ _ _ _ _ _ _ S T (eqO_ok h14) hc lk⟩, xfB_ok h13, eqO_ok h14, h15⟩
          exact Binds.all fun us hl => hB cc _ _ _ _ _ _ us hl
        · cases h8
      · cases h8
    · cases h8
  · cases h8
/-! ### the Hook -/
def asX (g : Addr → Option Obj) (n : Nat) : List Addr := cStatics :: asD g n
abbrev AlX : Type := AlD × Bool × List FnC
def obsX (P : Program) (fa : List Fa) (fn : List DefD) (er : List ErrD) (tu : List (Str × List (List Nat))) (K : PySem.W.Frag) : AlX := (obsD fa fn K, (er.all fun d => errB P K d) && tu.all fun t => tupB K t.1 (t.2.map fun l => Dv.str ⟨l.toArray⟩), er.map fun d => fnC K (ma K (ga K d.x) "__init__"))
def valX (fn : List DefD) (er : List ErrD) : AlX := (valD fn, true, er.map ErrD.val)
def SaysX (P : Program) (fa : List Fa) (fn : List DefD) (er : List ErrD) (tu : List (Str × List (List Nat))) (K : PySem.W.Frag) : Prop := obsX P fa fn er tu K = valX fn er
def obsXG (P : Program) (n : Nat) (fa : List Fa) (fn : List DefD) (er : List ErrD) (tu : List (Str × List (List Nat))) (g : Addr → Option Obj) : AlX := obsX P fa fn er tu (frG g (asX g n))
def hookX (P : Program) (n : Nat) (fa : List Fa) (fn : List DefD) (er : List ErrD) (tu : List (Str × List (List Nat))) : PySem.W.Hook where
  α := AlX
  obs := fun s => obsXG P n fa fn er tu s.heap.get?
  val := fun _ => valX fn er
  says := fun _ h => ∃ K : PySem.W.Frag, K.In h ∧ SaysX P fa fn er tu K
  of := fun _ _ e => ⟨_, frG_in, e⟩
  keeps := fun _ _ _ ⟨K, hK, c⟩ k => ⟨K, PySem.W.Frag.In.keeps hK k, c⟩
theorem obsXG_eq {P : Program} {n : Nat} {fa : List Fa} {fn : List DefD} {er : List ErrD} {tu : List (Str × List (List Nat))} {g : Addr → Option Obj} {s : Shared} (h : ∀ a, g a = s.heap.get? a) : obsXG P n fa fn er tu g = (hookX P n fa fn er tu).obs s := by
  have e : g = s.heap.get? := funext h
  rw [e] <;> rfl
section
variable {P : Program} {w : World} {fa : List Fa} {fn : List DefD} {er : List ErrD} {tu : List (Str × List (List Nat))} {K : PySem.W.Frag} {h : Heap} {mg : Str → Option Value} {base : Heap}
theorem SaysX.d (c : SaysX P fa fn er tu K) : SaysD fa fn K := congrArg (fun z : AlX => z.1) c
theorem SaysX.both (c : SaysX P fa fn er tu K) : (er.all fun d => errB P K d) = true ∧ (tu.all fun t => tupB K t.1 (t.2.map fun l => Dv.str ⟨l.toArray⟩)) = true := ba (congrArg (fun z : AlX => z.2.1) c)
theorem SaysX.err (c : SaysX P fa fn er tu K) (i : Nat) {d : ErrD} (hi : er[i]? = some d := by rfl) : errB P K d = true ∧ fnC K (ma K (ga K d.x) "__init__") = d.val := by
  refine ⟨List.all_eq_true.mp c.both.1 d (List.mem_of_getElem? hi), ?_⟩
  have e : er.map (fun d => fnC K (ma K (ga K d.x) "__init__")) = er.map ErrD.val := congrArg (fun z : AlX => z.2.2) c
  have e2 : (er.map fun d => fnC K (ma K (ga K d.x) "__init__"))[i]? = (er.map ErrD.val)[i]? := by rw [e]
  rw [List.getElem?_map, List.getElem?_map, hi] at e2
  exact Option.some.inj e2
def dOf (x : Str) (st : Stmt) : DefD := ⟨(x, none), x, x, defArgs st, defBody st, defScope st, [], []⟩
theorem SaysX.atD (c : SaysX P fa fn er tu K) (X : K.In h) (G : h.Ns mainGlobals mg) (i : Nat) {x : Str} {st : Stmt} (h1 : fa[i]? = some (.glo x) := by rfl) (h2 : fn[i]? = some (dOf x st) := by rfl) : At K mg x st := by
  obtain ⟨fd, F⟩ := c.d.def_ i h2
  exact ⟨_, fd, F, glo_ok X G (c.d.fact i h1)⟩
theorem SaysX.free (c : SaysX P fa fn er tu K) (X : K.In h) (G : h.Ns mainGlobals mg) (i : Nat) {x : Str} (h1 : fa[i]? = some (.free x) := by rfl) : mg x = none := free_ok X G (c.d.fact i h1)
theorem SaysX.int (c : SaysX P fa fn er tu K) (X : K.In h) (G : h.Ns mainGlobals mg) (i : Nat) {x : Str} {n : Int} (h1 : fa[i]? = some (.int x n) := by rfl) : GInt mg x n := int_ok X G (c.d.fact i h1)
theorem SaysX.str (c : SaysX P fa fn er tu K) (X : K.In h) (G : h.Ns mainGlobals mg) (i : Nat) {x : Str} {l : List Nat} (h1 : fa[i]? = some (.str x ⟨l.toArray⟩) := by rfl) : GStr mg x l := str_ok X G (c.d.fact i h1)
theorem SaysX.glo (c : SaysX P fa fn er tu K) (X : K.In h) (G : h.Ns mainGlobals mg) (i : Nat) {x : Str} (h1 : fa[i]? = some (.glo x) := by rfl) : mg x = some (.ref (ga K x)) := glo_ok X G (c.d.fact i h1)
theorem SaysX.tup (c : SaysX P fa fn er tu K) (X : K.In h) (G : h.Ns mainGlobals mg) (i j : Nat) {x : Str} {l : List (List Nat)} (h1 : fa[i]? = some (.glo x) := by rfl) (h2 : tu[j]? = some (x, l) := by rfl) : GTup K mg x (l.map S) := by
  refine ⟨_, c.glo X G i h1, fun H => ?_⟩
  have := tupB_ok (List.all_eq_true.mp c.both.2 _ (List.mem_of_getElem? h2)) H
  rw [List.map_map] at this
  exact this
end
end Hd
namespace W
open PySem PySem.Spec PyProof.Rows L2 Cm Lx
abbrev i_BadSource : Stmt := Hd.clsAt (topS 2) 0
def e_BadSource : Hd.ErrD := ⟨"BadSource", "place", "BadSource.__init__", i_BadSource⟩
theorem ss_BadSource : Xs.SupSc ["self", "place"] (defScope i_BadSource) := ⟨rfl, rfl, rfl, by decide +kernel, by decide +kernel, by decide +kernel, by decide +kernel, rfl, rfl⟩
theorem ini_BadSource : Hd.IniOk e_BadSource := by
  intro P w K mg base C cc cda fI dV kV doc pm ct oc an od osl S T no hc lk
  refine Xs.fn_super (C := C) (cc := cc) (cda := cda) (ar := (defArgs i_BadSource).args.headD default) ss_BadSource S T lk hc rfl rfl (fun L => rfl) (fun L => rfl) (fun L => rfl) (fun vs H Q E h => ?_) (fun A outer s H vs Q E hr h => ?_)
  · obtain ⟨a, v, rfl, _⟩ := h
    rfl
  · obtain ⟨a, v, rfl, ha, k⟩ := h
    refine ⟨a, _, rfl, ha, pss_one (ps_ost (pv 0) (pv 1)), ?_⟩
    exact ⟨_, rfl, _, rfl, a, C, rfl, T, no, .inl ⟨ha, k⟩⟩
theorem inb_BadSource : Hd.IniB e_BadSource := fun cc kV doc pm cdv ct an us hl => match us, hl with
  | [_, _], _ => rfl
def hfn : List He.DefD := ([Hd.dOf "run_end" (topS 16), Hd.dOf "name_end" (topS 17), Hd.dOf "keyword_end" (topS 18), Hd.dOf "keywords_end" (topS 19), Hd.dOf "string_end" (topS 20), Hd.dOf "string_of" (topS 21), Hd.dOf "first_of" (topS 22), Hd.dOf "symbol_end" (topS 23), Hd.dOf "symbol_word" (topS 24), Hd.dOf "name_word" (topS 25), Hd.dOf "string_word" (topS 26), Hd.dOf "integer_end" (topS 27), Hd.dOf "sign_word" (topS 28), Hd.dOf "word_at" (topS 29), Hd.dOf "comment_end" (topS 30), Hd.dOf "may_be_negative" (topS 31), Hd.dOf "note_sign" (topS 32), Hd.dOf "words_in" (topS 33), Hd.dOf "words_of" (topS 34), Hd.dOf "is_written" (topS 8), Hd.dOf "_law_bag" (topS 36), Hd.dOf "_law_take" (topS 37), Hd.dOf "_law_pick" (topS 38), Hd.dOf "_law_names" (topS 39), Hd.dOf "_law_strings" (topS 40), Hd.dOf "_law_numbers" (topS 41), Hd.dOf "_law_arrays" (topS 42), Hd.dOf "_law_bad" (topS 43), Hd.dOf "_law_ahead" (topS 44), Hd.dOf "_law_told" (topS 45)] : List He.DefD) ++ ([Hd.dOf "_law_row_right" (topS 46), Hd.dOf "_law_long_right" (topS 47), Hd.dOf "_law_right" (topS 48), Hd.dOf "law" (topS 49)] : List He.DefD)
def hfa : List He.Fa := ([.glo "run_end", .glo "name_end", .glo "keyword_end", .glo "keywords_end", .glo "string_end", .glo "string_of", .glo "first_of", .glo "symbol_end", .glo "symbol_word", .glo "name_word", .glo "string_word", .glo "integer_end", .glo "sign_word", .glo "word_at", .glo "comment_end", .glo "may_be_negative", .glo "note_sign", .glo "words_in", .glo "words_of", .glo "is_written", .glo "_law_bag", .glo "_law_take", .glo "_law_pick", .glo "_law_names", .glo "_law_strings", .glo "_law_numbers", .glo "_law_arrays", .glo "_law_bad", .glo "_law_ahead", .glo "_law_told"] : List He.Fa) ++ ([.glo "_law_row_right", .glo "_law_long_right", .glo "_law_right", .glo "law", .free "len", .free "max", .free "int", .free "all", .free "isinstance", .free "str", .free "range", .free "zip", .free "min", .free "sum", .free "tuple", .free "super", .int "MOST_NAME" (40), .int "MOST_SIGNS" (2000), .int "MOST_DIGITS" (60), .str "LETTERS" ⟨kLETTERS.toArray⟩, .str "DIGITS" ⟨kDIGITS.toArray⟩, .str "NAME_SIGNS" ⟨kNAME_SIGNS.toArray⟩, .glo "OPERATORS_FIRST", .glo "SIGNS_FIRST", .glo "ENDS", .glo "CLOSING", .glo "BadSource"] : List He.Fa)
def her : List Hd.ErrD := [e_BadSource]
def htu : List (Str × List (List Nat)) := [("OPERATORS_FIRST", kOPERATORS_FIRST), ("SIGNS_FIRST", kSIGNS_FIRST), ("ENDS", kENDS), ("CLOSING", kCLOSING)]
abbrev R : PySem.W.OpenRow := PySem.W.OpenLaw.row PySem.Challenge.rw_imagetalk_k02_words_at_their_edges
abbrev hk : PySem.W.Hook := Hd.hookX PySem.Challenge.pw_imagetalk_k02_words_at_their_edges 5 hfa hfn her htu
def ob (s : PySem.W.SharedT) : Hd.AlX := Hd.obsXG PySem.Challenge.pw_imagetalk_k02_words_at_their_edges 5 hfa hfn her htu (HandSHeadRun.getT s)
theorem ob_eq (s : PySem.W.SharedT) : ob s = hk.obs s.abs := Hd.obsXG_eq (HandSHeadRun.getT_eq s)
def loose : List Str := (["__name__", "TalkError", "BadSource", "MOST_NAME", "LETTERS", "DIGITS", "NAME_SIGNS", "is_written", "MOST_SIGNS", "MOST_DIGITS", "OPERATORS_FIRST", "SIGNS_FIRST", "ENDS", "CLOSING", "run_end", "name_end", "keyword_end", "keywords_end", "string_end", "string_of", "first_of", "symbol_end", "symbol_word", "name_word", "string_word", "integer_end", "sign_word", "word_at", "comment_end", "may_be_negative"] : List Str) ++ (["note_sign", "words_in", "words_of", "_law_bag", "_law_take", "_law_pick", "_law_names", "_law_strings", "_law_numbers", "_law_arrays", "_law_bad", "_law_ahead", "_law_told", "_law_row_right", "_law_long_right", "_law_right"] : List Str)
theorem run (w : World) : HandSHeadRun.RunEq R (PySem.W.view R.prog [49]) hk ob 6000 loose w := by
  intro os
  kernel_rfl
theorem facts {w : World} {K : PySem.W.Frag} {h : Heap} {mg : Str → Option Value} (X : K.In h) (G : h.Ns mainGlobals mg) (c : Hd.SaysX PySem.Challenge.pw_imagetalk_k02_words_at_their_edges hfa hfn her htu K) (base : Heap) : Ml PySem.Challenge.pw_imagetalk_k02_words_at_their_edges w K mg base (He.ga K "BadSource") :=
  { mb := { a__law_bag := c.atD X G 20, a__law_take := c.atD X G 21, a__law_pick := c.atD X G 22, g_len := c.free X G 34, g_max := c.free X G 35, g_int := c.free X G 36, g_sum := c.free X G 43 }, mc := { a__law_ahead := c.atD X G 28, a__law_told := c.atD X G 29 }, mr := { a__law_names := c.atD X G 23, a__law_strings := c.atD X G 24, a__law_numbers := c.atD X G 25, a__law_arrays := c.atD X G 26, a__law_bad := c.atD X G 27 }, md := { a_run_end := c.atD X G 0, a_name_end := c.atD X G 1, a_keyword_end := c.atD X G 2, a_keywords_end := c.atD X G 3, a_string_end := c.atD X G 4, a_string_of := c.atD X G 5, a_first_of := c.atD X G 6, a_symbol_end := c.atD X G 7, a_symbol_word := c.atD X G 8, a_name_word := c.atD X G 9, a_string_word := c.atD X G 10, a_integer_end := c.atD X G 11, a_sign_word := c.atD X G 12, a_word_at := c.atD X G 13, a_comment_end := c.atD X G 14, a_may_be_negative := c.atD X G 15, a_note_sign := c.atD X G 16, a_words_in := c.atD X G 17, a_words_of := c.atD X G 18, a_is_written := c.atD X G 19, g_len := c.free X G 34, g_max := c.free X G 35, g_int := c.free X G 36, g_all := c.free X G 37, g_isinstance := c.free X G 38, g_str := c.free X G 39, g_range := c.free X G 40, g_zip := c.free X G 41, g_min := c.free X G 42, g_sum := c.free X G 43, g_tuple := c.free X G 44, c_MOST_NAME := c.int X G 46, c_LETTERS := c.str X G 49, c_DIGITS := c.str X G 50, c_NAME_SIGNS := c.str X G 51, c_MOST_SIGNS := c.int X G 47, c_MOST_DIGITS := c.int X G 48, c_OPERATORS_FIRST := c.tup X G 52 0, c_SIGNS_FIRST := c.tup X G 53 1, c_ENDS := c.tup X G 54 2, c_CLOSING := c.tup X G 55 3, x_BadSource := Hd.errB_ok (d := e_BadSource) (c.err 0).1 (c.err 0).2 ini_BadSource inb_BadSource (c.glo X G 56) (c.free X G 45) (by kernel_rfl) }, a__law_row_right := c.atD X G 30, a__law_long_right := c.atD X G 31, a__law_right := c.atD X G 32, a_law := c.atD X G 33, g_len := c.free X G 34, g_all := c.free X G 37, g_isinstance := c.free X G 38, g_tuple := c.free X G 44, g_int := c.free X G 36, g_max := c.free X G 35, g_min := c.free X G 42, g_range := c.free X G 40 }
end W
namespace Hd
open PySem PySem.Spec PyProof.Rows L2 Cm
/-- none is let out -/
theorem fn_cx0 {P : Program} {w : World} {K : PySem.W.Frag} {mg : Str → Option Value} {base : Heap} {k : Nat} {f : Addr} {fd : FuncData} {ps : List Str} {sp : Sp} (h : FnOk P w K mg base (L2.CX P w) k f fd ps sp) :
    FnOk P w K mg base CX0 k f fd ps (fun vs H Q _ => sp vs H Q fun _ _ _ => False) :=
  ⟨fun vs H Q _ q => h.len vs H Q _ q, fun A outer s H args us vs Q E hr e0 hb r hsp => codeAny_mono (h.run A outer s H args us vs Q (fun _ _ _ => False) hr e0 hb r hsp) fun r s' q => by
    cases r with
    | error e =>
      obtain ⟨_, _, _, _, _, _, _, _, _, _, _, _, z⟩ := q
      exact z.elim
    | ok fl => cases fl <;> exact q⟩
end Hd
open PySem PySem.W PySem.Calls PyProof.Rows
theorem PySem.Challenge.cw_imagetalk_k02_words_at_their_edges_holds : PySem.Challenge.rw_imagetalk_k02_words_at_their_edges.Holds := by
  w_on; o_law
  refine HandSHeadRun.head_any (r := OpenLaw.row PySem.Challenge.rw_imagetalk_k02_words_at_their_edges) (q := view (OpenLaw.row PySem.Challenge.rw_imagetalk_k02_words_at_their_edges).prog [49]) (H := W.hk) (ob := W.ob) (M := 6000) (loose := W.loose) (d := HandSHeadRun.topDef (OpenLaw.row PySem.Challenge.rw_imagetalk_k02_words_at_their_edges).prog 49) (kwd := []) W.ob_eq
    (by kernel_rfl) (fun s => by kernel_rfl) W.run (by kernel_rfl) (by kernel_rfl) (by kernel_rfl) (by rfl) (by first | assumption | decide +kernel) (by decide +kernel) ⟨rfl, rfl, rfl, rfl, rfl, by decide +kernel⟩ ?hw ?hc
  case hw => w_witness2
  case hc =>
    refine L2.walk_ofE (l := PySem.Challenge.rw_imagetalk_k02_words_at_their_edges) (n := 63) (k := 14) (x := "_law_script") (CX := L2.CX0) rfl (by decide) (by kernel_rfl) ⟨rfl, by decide, by decide⟩ ?F (fun _ _ _ _ z => z)
    intro w mg fa h Y G hmg0
    obtain ⟨K, KX, c⟩ := Y
    have hmg : mg ("law" : PySem.Str) = some (.ref fa) := by
      have e : (HandSHeadRun.topDef (OpenLaw.row PySem.Challenge.rw_imagetalk_k02_words_at_their_edges).prog 49).name = ("law" : PySem.Str) := by kernel_rfl
      rw [← e]
      exact hmg0
    have ok := fun base => W.ok_law W.rowsOk W.longOk (W.facts (w := w) KX G c base)
    obtain ⟨f, fd, F, h1⟩ := (W.facts (w := w) KX G c h).a_law
    have ef : f = fa := by
      rw [h1] at hmg
      cases hmg
      rfl
    subst ef
    obtain ⟨oc, od, dV, kV, doc, pm, an, cdv, ct, osl, efd, h5, hcd, hD, hK⟩ := id F.ex
    refine ⟨K, fd, fun vs H Q _ => W.spLaw K vs H Q fun _ _ _ => False, KX, fun s u => ?_, fun H a ns hl _ hS => ⟨a, ns, rfl, hS, fun _ => rfl⟩, fun base KX' G' => ?_⟩
    · have b := L2.FunD.bindsA (ps := ["_law_script"]) F fun _ _ _ _ _ _ us hl => match us, hl with | [_], _ => rfl
      exact b s [u] rfl
    · obtain ⟨f', fd', g1, g2, g3, g4, oc, od, osl, g5⟩ := ok base
      rw [h1] at g1
      cases g1
      rw [g5] at h5
      cases h5
      exact Hd.fn_cx0 g4
