import PyProof.Rows.All
import Wide.All
import OpenK.AllK
import Wide.FinOn
import PyProof.EqAt
import PyProof.EqKinds
import PyProof.TupleCall
import KE.KExcSuper
import HandS.ForMost
import HandS.Exc
import HandS.ExcOwn
import HandS.TryOnly
import HandS.WordsExc
import HandS.ExcInit
import KE.KIntText
import PyProof.Rows.StrOr
import KE.GoesRaise
import KE.KExcIs
import HandS.IsInst
import HandS.ExcField
import HandS.ReplaceLit
import KE.KStateDown
import HandS.Defaults
import HandS.HeadEnd
import HandS.HeadHook1
import HandS.HeadHook2
import HandS.HeadHook3
import Lean
import HandS.Head0
import HandS.Head1
import HandS.Head2
import PySem.Challenge.RW_holdorslip_k80_data_first_wrong_sign
import HandS.More
import HandS.Codes
import HandS.FStr
import HandS.ReplaceList
import HandS.Wide
import HandS.TupAny
import HandS.Dict
set_option Elab.async false
set_option linter.all false
set_option maxRecDepth 100000
set_option maxHeartbeats 4000000
/-! QA: super().__init__(x) in the __init__ of an own exception class over ValueError (its bases may be own classes), as a def of the layer. -/
namespace Q7
open PySem PySem.Spec PyProof.Rows L2 PySem.W

section
variable {X : Cx} {pins : List (Addr × Obj)} {σ : L2.St} {H : Hp} {s : Shared} {a C u : Addr} {us : List Value} {Q : Value → Shared → Prop} {E : Value → Shared → Prop} {A : Around}
/-- the built-in __init__ bound to an exception that is being made, called -/
theorem sup_call (T : OexC X.K C) (I : Inv X pins σ H s) (hu : s.heap.get? u = some (kxs_mw "ValueError.__init__" a)) (e : H a = some (exo a C none)) (hl : us.length ≤ sizeLine) (h : ∀ s', Inv X pins σ H s' → Q .none s') :
    wpAny (model X.prog X.w) A (call (.ref u) us) Q E s := by
  obtain ⟨nm, q, N, bs, bm, sn, sub, ab, col, dd, k0, k1, k2, k3, k5, hC, hbm⟩ := T.cls
  obtain ⟨t1, ho⟩ := exo_at I.hok e
  have hC' := I.kIn _ _ hC
  obtain ⟨hp, g, d, t, os⟩ := s
  have hu : hp.get? u = some (kxs_mw "ValueError.__init__" a) := hu
  have ho : hp.get? a = some (excRec (.ref C) t1 none .none .none (.bool false)) := ho
  refine wpAny_call (codeAny_of_tree ?_)
  show wpAny _ A.in1 (callAny (.ref u) ⟨us, []⟩) _ _ _
  simp only [callAny]
  refine wpAny_bind (wpAny_load hu ?_)
  simp only [kxs_mw, show (Value.type "method-wrapper" == Value.type "method" || Value.type "method-wrapper" == Value.type "builtin_function_or_method" || Value.type "method-wrapper" == Value.type "method-wrapper") = true by decide, if_true]
  refine KFB.if_so (by decide) ?_
  refine wpAny_bind (check_bound_init F.excBase_ValueError.toExcCallFacts hC' ho rfl ?_)
  refine wpAny_bind (wpAny_pure (wpAny_pure ?_))
  refine ⟨plainId_quiet F.excBase_ValueError.init.plain _, codeAny_builtin F.excBase_ValueError.initEntry ?_⟩
  refine exc_init_tree (cls := .ref C) (t0 := t1) (dv := none) (c2 := .none) (c3 := .none) (b4 := .bool false) ho hl fun h' k hx ht => ?_
  have J := I.write (t' := t) (x := a) (e := a) (o := exo a C none) (by rw [e]; exact True.intro) (.inl rfl) k ⟨_, hx⟩ (exo_ok hx)
  have eu : upd H a (exo a C none) = H := by
    funext b
    by_cases hb : b = a
    · rw [hb, upd_same, e]
    · rw [upd_ne hb]
  rw [eu] at J
  exact h _ J
end

/-- what the written part says of super() in a method of the class at C, asked of an instance of C itself -/
structure SupC (K : PySem.W.Frag) (C : Addr) : Prop where
  sub : PySem.W.mroIn K C (.ref C) = some true
  fi : PySem.W.ks_superIn K C C "__init__" = some (some (.builtin "ValueError.__init__"))
  ve : PySem.W.subIn K (.ref C) (.type "ValueError") = some true
  opq : PySem.W.nsIn K cStatics "thirdparty.any" = some none
/-- .. of the method's code object cda and of its cell cc -/
structure SupF (P : Program) (K : PySem.W.Frag) (C cda cc : Addr) : Prop where
  code : ∃ (ccl : Value) (cdd : Option Addr) (vs : Array Value) (ccs : Array (Option Value)) (file : Str) (tf : Tok), K.lookup cda = some ⟨ccl, cdd, .fields vs, ccs⟩ ∧ vs[2]? = some (.str file tf) ∧ ((P.main.file : Str) == file) = true
  cell : ∃ (cl : Value) (cld : Option Addr) (csl : Array (Option Value)), K.lookup cc = some ⟨cl, cld, .cell (some (.ref C)), csl⟩
  top : (P.main.scope.names.lookup ("super" : Str)).isSome = false

theorem boot_super : bootBuiltins "super" = some (.type "super") := by decide +kernel

section
variable {X : Cx} {pins : List (Addr × Obj)} {σ : L2.St} {H : Hp} {s : Shared} {a C f cda cc : Addr} {arg : Expr} {ta : TE} {body rest : List Stmt} {p0 p1 apos pos pos' : Pos} {ar : Arg} {oc : Value} {od : Option Addr} {fd : FuncData} {osl : Array (Option Value)}
/-- super().__init__(arg) -/
theorem sup_stmt {pl : Sem Bool} {R : Flow → Shared → Prop} {qq : VK} (T : OexC X.K C) (S : SupC X.K C) (F : SupF X.prog X.K C cda cc) (I : Inv X pins σ H s) (e : H a = some (exo a C none))
    (lk : X.K.lookup f = some ⟨oc, od, .func fd, osl⟩) (hp : (fd.params.posonlyargs ++ fd.params.args).head? = some ar) (hN : X.N[0]? = some ar.arg) (hv : σ[0]? = some (some (.ref a)))
    (hks : X.env.kindOf ("super" : Str) = some .globalImplicit) (hkc : X.env.kindOf ("__class__" : Str) = some .free) (hka : X.env.kindOf ar.arg = some .local) (hfu : X.env.func = some f) (hco : X.env.code = .ref cda) (hcl : X.env.cells.lookup ("__class__" : Str) = some cc)
    (hsup : X.mg ("super" : Str) = none) (pe : PE X arg ta)
    (hta : ta σ H qq) (hqq : ∀ v H1, qq v H1 → H1 a = some (exo a C none) ∧ ∀ s', Inv X pins σ H1 s' → R .next s')
    (hsw : swapsWith (.Call (.Attribute (.Call (.Name "super" p0) [] [] p1) "__init__" apos) [arg] [] pos) none pos'.line X.env = pure false)
    (he : eval (.Call (.Attribute (.Call (.Name "super" p0) [] [] p1) "__init__" apos) [arg] [] pos) X.env = (do
      let ov ← attributeBase (.Call (.Name "super" p0) [] [] p1) "__init__" X.env (eval (.Call (.Name "super" p0) [] [] p1) X.env)
      standAt apos.atName
      let (f, first) ← holding [ov] (getMethod ov "__init__" pl)
      callWith pos f first (backTo pos (starEach [arg] X.env)) []))
    (hst : starEach [arg] X.env = [(false, eval arg X.env)]) :
    _root_.PySem.wpAt (model X.prog X.w) X.A (.func body X.env) (exec (.Expr (.Call (.Attribute (.Call (.Name "super" p0) [] [] p1) "__init__" apos) [arg] [] pos) pos') X.env) R X.xe s := by
  obtain ⟨nm, q, N, bs, bm, sn, sub, ab, col, dd, k0, k1, k2, k3, k5, hC, hbm⟩ := id T.cls
  obtain ⟨ccl, cdd, vs, ccs, file, tf, hcode, hvs, hfile⟩ := F.code
  obtain ⟨cl, cld, csl, hcell⟩ := F.cell
  obtain ⟨m, hn, hl⟩ := id I.loc
  obtain ⟨v0, rv, hlook⟩ := hl 0 _ _ hN hv (.inl hka)
  obtain rfl : v0 = Value.ref a := rv
  have hm : m ar.arg = some (.ref a) := by
    rcases hlook with ⟨_, z⟩ | ⟨z, _⟩
    · exact z
    · rcases z with z | z <;> rw [hka] at z <;> cases z
  have KX := I.kIn
  have hclC : PySem.W.clsIn X.K C = some { name := nm, bases := bs, mro := .ref C :: bm, ns := N, qualname := q, hasDict := true, slotNames := sn, subclasses := sub, abstract := ab, collection := col, hasDel := false } := by unfold PySem.W.clsIn; rw [hC] <;> rfl
  obtain ⟨t1, ho⟩ := exo_at I.hok e
  have iAt : PySem.W.InstAt s.heap a { cls := .ref C, dict := none, data := .fields #[.ref t1, .none, .none, .none, .bool false, .none] } C none := ⟨ho, rfl, rfl, trivial⟩
  refine ks_wpAt_Expr_any ?_ I.quiet hsw
  refine ks_wpAt_MethodCall (pl := pl) ?_ he
  refine ks_wpAt_super_base hks hkc (by decide +kernel) hfu (KX _ _ lk) rfl hp hco (KX _ _ hcode) rfl hvs hfile F.top ?_
  obtain ⟨mb, h1, h2⟩ := I.mod.blt
  refine ks_loadName_global I.ok.kind hks (Calls.loadGlobal_builtin (by rw [I.ok.glob]; exact I.mod.glob.keeps I.bk) hsup (by rw [I.ok.blt]; exact h1.keeps I.bk) ((h2 _ (by decide +kernel)).trans boot_super) ⟨rfl, ?_⟩)
  refine wpAny_loadName_free I.ok.kind hkc hcl ⟨_, KX _ _ hcell, rfl⟩ ?_
  refine wpAny_loadName_local I.ok.kind hka hn hm ?_
  refine ks_wpAny_isType_cls (KX _ _ hC) rfl ⟨rfl, ?_⟩
  have looksM := PySem.W.looks_mroIn (M := model X.prog X.w) KX S.sub
  obtain ⟨hp, g, d, t, os⟩ := s
  refine ks_wpAny_call_super (KX _ _ hC) rfl ho rfl (fun c z => nomatch z) looksM (fun h' hso k => ?_)
  have I1 : Inv X pins σ H ⟨h', g, d, t, os⟩ := I.kept (t' := t) k
  -- the method
  have hI : PySem.W.Looks (model X.prog X.w) h' (isInstance (.ref a) (.type "ValueError")) true :=
    (show PySem.W.InstAt h' a { cls := .ref C, dict := none, data := .fields #[.ref t1, .none, .none, .none, .bool false, .none] } C none from ⟨k _ _ ho, rfl, rfl, trivial⟩).type.andThen (PySem.W.looks_subIn I1.kIn S.ve)
  have hf : alongIn X.K "__init__" (((.ref C :: bm).dropWhile (· != .ref C)).drop 1) = some (some (.builtin "ValueError.__init__")) := by
    have z := S.fi
    unfold PySem.W.ks_superIn at z
    rw [hclC] at z
    exact z
  have hxC : a ≠ C := fun z => by
    rw [← z] at hC
    have z2 : hp.get? a = some (excClassObj nm q a N bs bm true sn sub ab col dd k0 k1 k2 k3 k5 "ValueError.__new__") := KX _ _ hC
    rw [show hp.get? a = _ from ho] at z2
    cases z2
  refine kxs_getMethod kxs_ValueError hso (PySem.W.looks_opaque I1.kIn S.opq) (l₀ := .ref C :: bm) ?_ rfl I1.kIn hf hI hxC (by decide +kernel) ?_
  · exact fun A Q E s k q => wpAny_bind ((PySem.W.looks_clsIn I1.kIn hclC) A _ E s k (wpAny_pure q))
  -- the arguments
  have kp : ∀ b o, h'.get? b = some o → (h'.push (kxs_mw "ValueError.__init__" a)).get? b = some o := fun b o z => Heap.get?_push_of_some _ z
  have hmw : (h'.push (kxs_mw "ValueError.__init__" a)).get? h'.objs.size = some (kxs_mw "ValueError.__init__" a) := Heap.get?_push_at rfl rfl
  have I2 : Inv X pins σ H ⟨h'.push (kxs_mw "ValueError.__init__" a), g, d, t + 1, os⟩ := I1.kept (t' := t + 1) kp
  have nH : H h'.objs.size = none := I1.hok.fresh (Nat.le_refl _)
  have I3 : Inv X (pins ++ [(h'.objs.size, kxs_mw "ValueError.__init__" a)]) σ H ⟨h'.push (kxs_mw "ValueError.__init__" a), g, d, t + 1, os⟩ := I2.pins_of fun p hp => by
    rcases List.mem_append.mp hp with hp | hp
    · exact I2.pin p (List.mem_append_right _ hp)
    · have z : p = (h'.objs.size, kxs_mw "ValueError.__init__" a) := by simpa using hp
      subst z
      exact ⟨hmw, nH, fun z => by have y := I1.lt; rw [← z] at y; exact absurd y (Nat.lt_irrefl _), I1.nofs (Nat.le_refl _), fun v z => by cases z⟩
  rw [hst]
  show wpAny _ _ (callWith pos (.ref h'.objs.size) [] [(false, eval arg X.env)] []) _ _ _
  refine kxs_callWith (i := "ValueError.__init__") (x := a) rfl ?_
  refine Calls.evalArgs_plain ?_
  refine Calls.spliced_cons (thn (pe.run _ _ σ H _ I3 hta) fun v s3 ⟨vv, H3, I4, rv3, qv3⟩ => Calls.spliced_nil ?_)
  obtain ⟨e3, q3⟩ := hqq _ _ qv3
  have I5 := I4.unpinned (pins := pins)
  refine ⟨(I4.pin _ (List.mem_append_right _ (List.mem_append_right _ (List.mem_singleton.mpr rfl)))).1, ?_⟩
  exact sup_call T I5 (I4.pin _ (List.mem_append_right _ (List.mem_append_right _ (List.mem_singleton.mpr rfl)))).1 e3 (by show 1 ≤ sizeLine; rw [sizeLine_eq]; decide) fun s' J => q3 s' J
end
end Q7

set_option Elab.async false
set_option linter.all false
set_option maxRecDepth 100000
set_option maxHeartbeats 4000000
/-! QB: the def __init__ with super().__init__(x) keeps its promise. -/
namespace Q7
open PySem PySem.Spec PyProof.Rows L2 PySem.W

theorem lookup_nd {α : Type} : ∀ {l : List (Str × α)} {x : Str} {u : α}, (l.map (·.1)).Nodup → (x, u) ∈ l → l.lookup x = some u
  | [], _, _, _, h => by cases h
  | (y, w) :: l, x, u, nd, h => by
    have nd2 := List.nodup_cons.mp (show (y :: l.map (·.1)).Nodup from nd)
    rcases List.mem_cons.mp h with e | h
    · cases e
      simp [List.lookup]
    · have hne : (x == y) = false := by
        have z : x ≠ y := fun e => nd2.1 (e ▸ List.mem_map.mpr ⟨(x, u), h, rfl⟩)
        simpa using z
      simp only [List.lookup, hne]
      exact lookup_nd nd2.2 h
theorem zip_rev {ps : List Str} {us : List Value} {i : Nat} {x : Str} {u : Value} (nd : ps.Nodup) (hp : ps[i]? = some x) (hu : us[i]? = some u) : (ps.zip us).reverse.lookup x = some u := by
  refine lookup_nd ?_ ?_
  · rw [List.map_reverse, (List.reverse_perm _).nodup_iff]
    have e : (ps.zip us).map (·.1) = ps.take us.length := by
      have : ∀ (ps : List Str) (us : List Value), (ps.zip us).map (·.1) = ps.take us.length := by
        intro ps
        induction ps with
        | nil => intro us; simp
        | cons p ps ih =>
          intro us
          cases us with
          | nil => simp
          | cons u us => simp [ih]
      exact this ps us
    rw [e]
    exact nd.sublist (List.take_sublist _ _)
  · rw [List.mem_reverse]
    refine List.mem_of_getElem? (i := i) ?_
    exact List.getElem?_zip_eq_some.mpr ⟨hp, hu⟩

/-- the context of such a method's body -/
def cxS (CX : CXT) (P : Program) (w : World) (K : PySem.W.Frag) (mg : Str → Option Value) (base : Heap) (N : List Str) (qual : Str) (scope : Scope) (f : Addr) (cd : Value) (cc : Addr) (A : Around) (outer : List Env) (s : Shared) (H : Hp) (E : XK) : Cx where
  prog := P
  w := w
  K := K
  mg := mg
  base := base
  A := A.deeper (ksEnv qual scope s.heap.objs.size f cd cc)
  N := N
  s_0 := s
  H_0 := H
  env := ksEnv qual scope s.heap.objs.size f cd cc
  outer := outer
  stack := ksEnv qual scope s.heap.objs.size f cd cc :: outer
  ex := []
  calm := true
  fn := fun _ => false
  pn := []
  xe := fun e s' => wpAny (model P w) (A.deeper (ksEnv qual scope s.heap.objs.size f cd cc)) (leaving (ksEnv qual scope s.heap.objs.size f cd cc) e) (fun _ s'' => CX outer H s E e s'') (fun e' s'' => CX outer H s E e' s'') s'

/-- the scope of such a method: the parameters, __class__ free -/
structure SupScope (N P : List Str) (sc : Scope) : Prop where
  kind : sc.kind = .function
  co : sc.isCoroutine = false
  gen : sc.isGenerator = false
  nd : N.Nodup
  pre : N.take P.length = P
  par : ∀ x ∈ P, sc.names.lookup x = some .local
  nocell : ∀ y ∈ sc.names, y.2 ≠ .cell
  free : ∀ y ∈ sc.names, y.2 = .free → y.1 = ("__class__" : Str)
  ks : sc.names.lookup ("super" : Str) = some .globalImplicit
  kc : sc.names.lookup ("__class__" : Str) = some .free

section
variable {CX : CXT} {P : Program} {w : World} {K : PySem.W.Frag} {mg : Str → Option Value} {base : Heap}
theorem inv_startS {N ps : List Str} {qual : Str} {scope : Scope} {f cc : Addr} {cd : Value} {A : Around} {outer : List Env} {s : Shared} {H : Hp} {E : XK} {us : List Value} {vs : List V} {h1 : Heap} {tk : Nat} {cl : Value} {cld : Option Addr} {csl : Array (Option Value)} {C : Addr}
    (S : SupScope N ps scope) (hd : A.handled = none) (e0 : Env0 P w K mg base A outer s H) (hl : vs.length = ps.length) (r : Vals vs us) (hcc : K.lookup cc = some ⟨cl, cld, .cell (some (.ref C)), csl⟩)
    (hns : h1.Ns s.heap.objs.size (fun x => (ps.zip us).reverse.lookup x)) (hk : ∀ b o, s.heap.get? b = some o → h1.get? b = some o) :
    Inv (cxS CX P w K mg base N qual scope f cd cc A outer s H E) [] (L2.start N vs) H { s with heap := h1, toks := tk } := by
  have hpl : ps.length ≤ N.length := by have := congrArg List.length S.pre; rw [List.length_take] at this; omega
  have noA : ∀ b : Addr, b ∉ (cxS CX P w K mg base N qual scope f cd cc A outer s H E).ex := fun b z => absurd (show b ∈ ([] : List Addr) from z) (by simp)
  have cB : base.get? cc = some ⟨cl, cld, .cell (some (.ref C)), csl⟩ := e0.mod.kin _ _ hcc
  obtain ⟨cS, cH⟩ := e0.bs _ _ cB
  have only : ∀ {y : Str} {c : Addr}, (cxS CX P w K mg base N qual scope f cd cc A outer s H E).env.cells.lookup y = some c → y = "__class__" ∧ c = cc := fun {y c} z => by
    have z : List.lookup y [(("__class__" : Str), cc)] = some c := z
    by_cases hy : y = "__class__"
    · subst hy
      simp [List.lookup] at z
      exact ⟨rfl, z.symm⟩
    · have e : (y == ("__class__" : Str)) = false := by simpa using hy
      simp [List.lookup, e] at z
  refine ⟨⟨e0.mod, S.kind, rfl, rfl, Nat.le_refl _, fun y z c h1 h2 => ?_, fun y hy => ?_, fun y c z h => Bool.noConfusion (show false = true from z), fun _ => hd, Around.frames_deeper e0.frames, .inr ⟨rfl, rfl⟩, fun b z => absurd z (noA b), e0.bs, e0.bsz, fun b _ _ => noA b, fun b z => absurd z (noA b), e0.funs, e0.frf⟩,
    rfl, e0.bare, Un.kept hk, ⟨_, hns, fun i y v h1 h2 h3 => ?_⟩, fun y c h => ?_, e0.hok.fresh (Nat.le_refl _), fun y c h => ?_, fun p hp => absurd (show p ∈ ([] : List (Addr × Obj)) from hp) (by simp), e0.hok.kept hk, ?_⟩
  · rw [(only h1).1, (only h2).1]
  · have hy : scope.names.lookup y = some .cell ∨ scope.names.lookup y = some .free := hy
    rcases hy with hy | hy
    · exact absurd rfl (S.nocell _ (PySem.mem_of_lookup hy))
    · have e := S.free _ (PySem.mem_of_lookup hy) rfl
      have e : y = "__class__" := e
      subst e
      exact ⟨cc, by show List.lookup ("__class__" : Str) [(("__class__" : Str), cc)] = some cc; simp [List.lookup]⟩
  · have hi : i < vs.length := by
      unfold L2.start at h2
      by_cases hi : i < vs.length
      · exact hi
      · rw [List.getElem?_append_right (by simpa using hi)] at h2
        rw [List.getElem?_replicate] at h2
        split at h2 <;> cases h2
    have ha : vs[i]? = some v := by
      unfold L2.start at h2
      rw [List.getElem?_append_left (by simpa using hi), List.getElem?_map] at h2
      cases e : vs[i]? with
      | none => rw [e] at h2; cases h2
      | some a => rw [e] at h2; cases h2; rfl
    obtain ⟨u, hu, rv⟩ := r.get ha
    have hp : ps[i]? = some y := by
      rw [← S.pre, List.getElem?_take_of_lt (by omega)]; exact h1
    have ndP : ps.Nodup := by rw [← S.pre]; exact S.nd.sublist (List.take_sublist _ _)
    exact ⟨u, rv, .inl ⟨S.par y (List.mem_of_getElem? hp), zip_rev ndP hp hu⟩⟩
  · rw [(only h).2]
    exact ⟨_, _, hk _ _ cS, rfl⟩
  · rw [(only h).2]
    exact cH
  · unfold L2.start
    show _ = N.length
    rw [List.length_append, List.length_map, List.length_replicate]
    omega

/-- THE RULE for such a method: its first statement is super().__init__(arg), the rest is a block of the layer -/
theorem fn_sup {k : Nat} {f cda cc C : Addr} {name qual : Str} {params : Arguments} {arg : Expr} {rest : List Stmt} {p0 p1 apos pos pos' : Pos} {scope : Scope} {dV kV doc pm ct oc : Value} {an od : Option Addr} {osl : Array (Option Value)} {N ps : List Str} {sp : Sp} {ar : Arg}
    (lk : K.lookup f = some ⟨oc, od, .func (ksFn name qual params (.Expr (.Call (.Attribute (.Call (.Name "super" p0) [] [] p1) "__init__" apos) [arg] [] pos) pos' :: rest) scope dV kV doc pm an (.ref cda) ct cc), osl⟩)
    (hcd : PySem.W.codeIn K (.ref cda) qual = true) (S : SupScope N ps scope) (T : OexC K C) (SC : SupC K C) (F : SupF P K C cda cc) (hsup : mg ("super" : Str) = none)
    (hp : (params.posonlyargs ++ params.args).head? = some ar) (hN : N[0]? = some ar.arg) (hka : scope.names.lookup ar.arg = some .local)
    (hsw : ∀ env : Env, swapsWith (.Call (.Attribute (.Call (.Name "super" p0) [] [] p1) "__init__" apos) [arg] [] pos) none pos'.line env = pure false)
    (he : ∀ env : Env, ∃ pl : Sem Bool, eval (.Call (.Attribute (.Call (.Name "super" p0) [] [] p1) "__init__" apos) [arg] [] pos) env = (do
      let ov ← attributeBase (.Call (.Name "super" p0) [] [] p1) "__init__" env (eval (.Call (.Name "super" p0) [] [] p1) env)
      standAt apos.atName
      let (f, first) ← holding [ov] (getMethod ov "__init__" pl)
      callWith pos f first (backTo pos (starEach [arg] env)) []))
    (hst : ∀ env : Env, starEach [arg] env = [(false, eval arg env)])
    (len : ∀ vs H Q E, sp vs H Q E → vs.length = ps.length)
    (hbody : ∀ (A : Around) (outer : List Env) (s : Shared) (H : Hp) (vs : List V) (Q : VK) (E : XK), Room k (A.deeper (ksEnv qual scope s.heap.objs.size f (.ref cda) cc)) → sp vs H Q E →
      ∃ (a : Addr) (ta : TE) (t : TS), PE (cxS CX P w K mg base N qual scope f (.ref cda) cc A outer s H E) arg ta ∧ PSs (cxS CX P w K mg base N qual scope f (.ref cda) cc A outer s H E) rest t ∧
        (L2.start N vs)[0]? = some (some (.ref a)) ∧ H a = some (exo a C none) ∧
        ta (L2.start N vs) H fun v H1 => H1 a = some (exo a C none) ∧ t { nx := fun _ H' => Q .non H', rt := Q } (L2.start N vs) H1) :
    FnOk P w K mg base CX (k + 1) f (ksFn name qual params (.Expr (.Call (.Attribute (.Call (.Name "super" p0) [] [] p1) "__init__" apos) [arg] [] pos) pos' :: rest) scope dV kV doc pm an (.ref cda) ct cc) ps sp := by
  refine ⟨len, fun A outer s H args us vs Q E hr e0 hb r hsp => ?_⟩
  have hl := len _ _ _ _ hsp
  have KX : K.In s.heap := e0.mod.kin.keeps fun b o e => (e0.bs b o e).1
  have lim : s.heap.NoLimit := e0.mod.nolimit.keeps fun b o e => (e0.bs b o e).1
  obtain ⟨cl, cld, csl, hcell⟩ := id F.cell
  refine ks_codeAny_call_defAt (fd := ksFn name qual params _ scope dV kV doc pm an (.ref cda) ct cc) (binds := ps.zip us) hr.depth (KX _ _ lk) rfl lim (PySem.W.codeRec_of KX hcd) rfl hb S.nocell (fun y hy => ?_) (fun h1 hns hk => ?_) S.co S.gen S.kind
  · obtain ⟨y1, y2⟩ := y
    exact S.par _ (List.of_mem_zip hy).1
  · obtain ⟨a, ta, t, pe, ps', hv, hea, hta⟩ := hbody A outer s H vs Q E (hr.deeper _) hsp
    have I : Inv (cxS CX P w K mg base N qual scope f (.ref cda) cc A outer s H E) [] (L2.start N vs) H { s with heap := h1, toks := s.toks + (ps.zip us).length } := inv_startS S hr.hd e0 hl r hcell hns hk
    have fin : ∀ {σ' : L2.St} {H' : Hp} {v : V} {u : Value} {s' : Shared}, Inv (cxS CX P w K mg base N qual scope f (.ref cda) cc A outer s H E) [] σ' H' s' → RelV v u → Q v H' → CE outer P w H s Q u s' :=
      fun {σ' H' v u s'} J rv q => ⟨v, H', J.os, J.bare, J.base, J.hok, rv, q⟩
    refine ks_wpAt_execs_cons ?_
    obtain ⟨pl, hev⟩ := he (ksEnv qual scope s.heap.objs.size f (.ref cda) cc)
    refine sup_stmt (X := cxS CX P w K mg base N qual scope f (.ref cda) cc A outer s H E) (pl := pl) (ta := ta) T SC F I hea lk hp hN hv S.ks S.kc hka rfl rfl (by show List.lookup ("__class__" : Str) [(("__class__" : Str), cc)] = some cc; simp [List.lookup]) hsup pe hta ?_ (hsw _) hev (hst _)
    intro v H1 ⟨q1, q2⟩
    refine ⟨q1, fun s' J => ?_⟩
    refine ks_wpAt_mono (_root_.PySem.wpAt_of_wpAny (wpAny_mono (ps'.run [] s' (L2.start N vs) H1 _ J q2) (fun fl s'' hs => hs) fun _ _ x => x)) (fun fl s'' hs => ?_) fun _ _ x => x
    cases fl with
    | ret u =>
      obtain ⟨v, σ', H', J, rv, q⟩ := hs
      exact fin J rv q
    | next =>
      obtain ⟨σ', H', J, q⟩ := hs
      exact fin (v := V.non) (u := Value.none) J rfl q
    | brk =>
      obtain ⟨_, _, _, q⟩ := hs
      exact False.elim q
    | cont =>
      obtain ⟨_, _, _, q⟩ := hs
      exact False.elim q
end
end Q7

set_option Elab.async false
set_option linter.all false
set_option maxRecDepth 100000
set_option maxHeartbeats 4000000
/-! QC: str(n) and int(text) up to 4300 figures. -/
namespace Q7
open PySem PySem.Spec PyProof.Rows L2 PySem.W PySem.NumText

/-- no limit of figures was set -/
structure NoDig (K : PySem.W.Frag) : Prop where
  ok : PySem.W.nsOkIn K cStatics = true
  no : PySem.W.nsIn K cStatics "sys.int_max_str_digits" = some none
theorem NoDig.heap {K : PySem.W.Frag} {h : Heap} (x : NoDig K) (k : K.In h) : h.NoDigits :=
  ⟨_, Heap.Ns.of_isNs (PySem.W.isNs_of_in k x.ok), PySem.W.nsMap_none_of_in k x.ok x.no⟩

theorem call_str_big {X : Cx} (hc : X.calm = true) (N : NoDig X.K) : CallR X (.type "str") (fun xs H Q => ∃ i, xs = [.int i] ∧ i.natAbs < 10 ^ 4300 ∧ Q (.str (toString i)) H) := by
  intro pins s σ H xs us Q I r h
  obtain ⟨i, rfl, hi, q⟩ := h
  obtain ⟨u, rfl, t, rfl⟩ := vals1 r
  exact str_of_int_or (I.ok.hd hc) (N.heap I.kIn) (fun _ => ⟨.str _, H, I.tok _, ⟨_, rfl⟩, q⟩) fun z => absurd (Nat.lt_of_lt_of_le hi z) (Nat.lt_irrefl _)

theorem wp_textB {M : Model} {A : Around} {E : Value → Shared → Prop} {s : Shared} {Q : Value → Shared → Prop} {v : Value} {text : List Nat} {n : Int} (hn : s.heap.NoDigits)
    (hs : ¬ (text.takeWhile (· != 0)).length ≤ 640) (hr : (int_private% "readNumeral") 4300 10 (text.takeWhile (· != 0)) = (int_private% "Numeral.value") n)
    (ha : ((text.takeWhile (· != 0)).length == text.length) = true) (h : Q (.int n s.toks) { s with toks := s.toks + 1 }) :
    wpAny M A ((int_private% "intFromText") v text 10) Q E s := by
  obtain ⟨hp, g, d, tk, os⟩ := s
  obtain ⟨mc, hns, hnone⟩ := hn
  have key : ∀ {Q' : Nat → Shared → Prop}, Q' 4300 ⟨hp, g, d, tk, os⟩ → wpAny M A Builtin.intMaxStrDigits Q' E ⟨hp, g, d, tk, os⟩ := fun {Q'} q => by
    unfold Builtin.intMaxStrDigits
    refine wpAny_bind (wpAny_nsGet hns ?_)
    rw [hnone]
    exact wpAny_pure q
  repeat (any_goals (first
    | assumption
    | (with_reducible refine wpAny_ite_false (decide_eq_false hs) ?_)
    | (with_reducible refine wpAny_ite_true (decide_eq_true ha) ?_)
    | (with_reducible refine key ?_)
    | wp_step))
  all_goals (try rw [hr])
  all_goals (try dsimp only)
  repeat (any_goals (first
    | assumption
    | (with_reducible refine wpAny_ite_true (decide_eq_true ha) ?_)
    | wp_step))
theorem meets_text {x : PySem.Str} {u : Tok} {n : Int} (hl : x.length ≤ 4300) (hn : PySem.intText? x = some n) :
    Meets (Builtin.«int.__new__» ⟨[.type "int", .str x u], []⟩) (fun _ R s => s.heap.NoDigits ∧ R (.ok (.ret (.int n s.toks))) { s with toks := s.toks + 1 }) :=
  .of_wp fun prog w A R s h => by
    obtain ⟨hp, g, d, tk, os⟩ := s
    obtain ⟨hd, h⟩ := h
    have f1 := F.conv_sub_int
    have f2 := F.madeHere_int
    have f3 := KIN.str_int
    have f4 := KIN.str_idx
    have f5 := KIN.str_trunc
    have f6 : typeOf (.str x u) = pure (.type "str") := rfl
    have hk : ∀ {M : Model} {A : Around} {E : Value → Shared → Prop} {Q : Value → Shared → Prop} {v : Value}, Q (.int n tk) ⟨hp, g, d, tk + 1, os⟩ → wpAny M A ((int_private% "intFromText") v (numTextOf x) 10) Q E ⟨hp, g, d, tk, os⟩ := fun {M A E Q v} q => by
      by_cases hs : (numSeenOf x).length ≤ 640
      · rcases read0 x hs with ⟨m, h1, h2, h3⟩ | ⟨h1, _⟩
        · rw [hn] at h1
          injection h1 with h1
          subst h1
          exact KIN.wp_text hs h3 h2 q
        · rw [hn] at h1
          cases h1
      · rcases read4300 x (Nat.le_trans hl (by rw [sizeLine_eq]; decide)) with ⟨m, h1, h2, h3⟩ | ⟨h1, _⟩
        · rw [hn] at h1
          injection h1 with h1
          subst h1
          exact wp_textB hd hs h3 h2 q
        · rw [hn] at h1
          cases h1
    clear hl hn hd
    repeat (any_goals (first
      | assumption
      | ((with_reducible show wpAny _ _ ((int_private% "intFromText") _ _ _) _ _ _); refine hk ?_)
      | wp_step))
    all_goals first | exact ⟨_, rfl, h⟩ | skip
theorem call_int_big {X : Cx} (N : NoDig X.K) : CallR X (.type "int") (fun xs H Q => ∃ a n, xs = [.str a] ∧ PySem.intText? a = some n ∧ a.length ≤ 4300 ∧ Q (.int n) H) := by
  intro pins s σ H xs us Q I r h
  obtain ⟨a, n, rfl, hn, hl, q⟩ := h
  obtain ⟨u, rfl, t, rfl⟩ := vals1 r
  exact call_int_1 (meets_text hl hn) ⟨N.heap I.kIn, rfl, ⟨.int _, H, I.tok _, ⟨_, rfl⟩, q⟩⟩
end Q7

set_option Elab.async false
set_option linter.all false
set_option maxRecDepth 100000
set_option maxHeartbeats 4000000
/-! QD: a list comprehension whose element calls a def that may raise. -/
namespace Q7
open PySem PySem.Spec PyProof.Rows L2 PySem.W

/-- the block's context, with a wish about exceptions -/
abbrev blkX (X : Cx) (s : Shared) (H : Hp) (scope : Scope) (cenv : Env) (fp : List Addr) (xe : Value → Shared → Prop) : Cx := (X.blk s H scope cenv fp).wish xe

section
variable {X : Cx} {pins : List (Addr × Obj)} {σ : L2.St} {H3 : Hp} {s3 : Shared} {scope : Scope} {ce : Env} {fp : List Addr} {W : WX} {E : XK}
/-- what a call in the element lets out is held by the def's frame -/
theorem blk_passes (hs : X.stack = X.env :: X.outer) (hf : X.env.frame = some X.env.locals) (tk : Takes X W) (hW : ∀ cls d σ H, E cls d H → W cls d σ H) (I3 : Inv X pins σ H3 s3) (cL : ce.locals = s3.heap.objs.size) (cF : ce.frame = X.env.frame)
    (f3 : ∀ b ∈ fp, FpOk X pins H3 b ∧ b < s3.heap.objs.size) {xe : Value → Shared → Prop} (hxe : xe = notedBy (model X.prog X.w) X.A ce (CompFails (model X.prog X.w) X.A X.xe ce)) :
    Passes (L2.CX X.prog X.w) (blkX X s3 H3 scope ce fp xe) E := by
  intro pins' σ' H' s e s' I' c
  have I0 := I'.unwish
  obtain ⟨a, B, H2, cls, d, rfl, fl, hok, ub, na, os, ag, hE⟩ := c
  have fl : HandSPX.FlyingZ B X.stack a (Zc cls d) s'.heap := fl
  have ub : UB (frs X.stack) H' H2 s.heap B s'.heap := ub
  have hfr : X.A.frames = some (X.env :: X.outer) := by rw [I3.ok.frames, hs]
  -- the block's names
  obtain ⟨m, hn, _⟩ := I0.loc
  have hn : s.heap.Ns ce.locals m := hn
  have nH' : H' ce.locals = none := I0.free
  obtain ⟨oL, esL, epL, hoL, hdL, hrL⟩ := id hn
  have nF : ce.locals ∉ frs X.stack := fun hm => by
    obtain ⟨_, o, ho, _⟩ := I3.stack.mem hm
    have y := Heap.lt_size ho
    rw [cL] at y
    exact absurd y (Nat.lt_irrefl _)
  have bL : B.get? ce.locals = some oL := ub.keep _ _ hoL nH' nF
  have nH2 : H2 ce.locals = none := ub.free _ _ hoL nH'
  have nfld : ∀ vs, oL.data ≠ .fields vs := fun vs z => by rw [hdL] at z; cases z
  -- the ground without them
  obtain ⟨B', b1, b2⟩ := restrict B fun b => decide (b ≠ ce.locals)
  have bk : ∀ b, b ≠ ce.locals → B'.get? b = B.get? b := fun b hb => b1 b (decide_eq_true hb)
  have bn : B'.get? ce.locals = none := b2 _ (by simp)
  have bB : ∀ b o, B'.get? b = some o → B.get? b = some o ∧ b ≠ ce.locals := fun b o e => by
    have hb : b ≠ ce.locals := fun z => by rw [z, bn] at e; cases e
    exact ⟨(bk b hb).symm.trans e, hb⟩
  have none' : ∀ b, B.get? b = none → B'.get? b = none := fun b e => by
    cases q : B'.get? b with
    | none => rfl
    | some o => have z := (bB b o q).1; rw [e] at z; cases z
  have fl' : HandSPX.FlyingZ B' X.stack a (Zc cls d) s'.heap := by
    obtain ⟨k1, k2, k3, oe, vs, T, oT, ts, he, hz, hd, h1, hnT, r⟩ := fl
    refine ⟨fun b o e => k1 b o (bB b o e).1, none' _ k2, funFrames_none k3 fun L hL => none' _ ?_, oe, vs, T, oT, ts, he, hz, hd, h1, none' _ hnT, r⟩
    exact (k3.mem hL).1
  have hok' : HOk X.prog X.w H2 B' := fun b o e => (hok b o e).stay (fun c v hc q => by
      have hcn : c ≠ ce.locals := by
        rintro rfl
        rcases hc with hc | hc
        · rw [← hc, nH2] at e; cases e
        · rw [nH2] at hc; cases hc
      exact (bk c hcn).trans q) (fun _ q => q) fun _ _ q => q
  -- noted by the frame
  subst hxe
  show wpAny (model X.prog X.w) X.A (noteFrame (.ref a) ce) _ _ s'
  rw [noteFrame_env (.ref a) cF]
  rw [hs] at fl'
  refine HandSPX.looks_onZ Zc.steady hfr hf fl' fun h1 held up1 => ?_
  have stB : B'.StaysIn s'.heap := fl'.1
  have bS : s'.heap.get? ce.locals = some oL := fl.1 _ _ bL
  obtain ⟨sl1, hL1⟩ := up1 _ _ bS nfld
  have hn1 : h1.Ns ce.locals m := ⟨_, esL, epL, hL1, hdL, hrL⟩
  refine ⟨m, hn1, fun h2 m2 hn2 sb => ?_⟩
  -- the names are let go
  have held2 : HandSPX.HeldZ B' (X.env :: X.outer) a (Zc cls d) X.env.locals h2 := by
    obtain ⟨k1, k2, k3, oe, vs, T, oT, ts, he, hz, hd, hv1, hnT, hTe, hT, hdT, hv3⟩ := held
    have ne : ∀ {b : Addr} {o : Obj} {vs : Array Value}, h1.get? b = some o → o.data = .fields vs → b ≠ ce.locals := fun {b o vs} q dd z => by
      rw [z, hL1] at q
      cases q
      exact nfld vs dd
    exact ⟨fun b o e => (sb.2 b (bB b o e).2).trans (k1 b o e), k2, Heap.FunFrames.sameBut sb hn2 k3, oe, vs, T, oT, ts, (sb.2 _ (ne he hd)).trans he, hz, hd, hv1, hnT, hTe, (sb.2 _ (ne hT hdT)).trans hT, hdT, hv3⟩
  have pass : wpAny (model X.prog X.w) X.A (PySem.passOn "comprehension.variables-let-go" (.ref a) ce : Sem Value) (fun _ _ => False) X.xe { s' with heap := h2 } := by
    obtain ⟨oe, vs, T, oT, ts, he, hz, hd, hv1, hr⟩ := id held2.2.2.2
    unfold PySem.passOn
    refine wpAny_bind (wpAny_field he hd hv1 ?_)
    rw [if_neg (show ¬ ((Value.ref T == Value.none) = true) from by simp), cF, hf]
    refine wpAny_bind (HandSPX.setFlight_onZ held2 fun h3 held3 up3 => wpAny_throw (tk _ _ ?_))
    -- in the air of the def
    obtain ⟨G, g1, g2⟩ := restrict s'.heap fun b => (B'.get? b).isSome || decide (b ∈ frs X.stack)
    have gB : ∀ b o, B'.get? b = some o → G.get? b = some o := fun b o e => by
      rw [g1 b (by simp [e])]
      exact stB b o e
    have gF : ∀ b, b ∈ frs X.stack → G.get? b = s'.heap.get? b := fun b hb => g1 b (by simp [hb])
    have og : ∀ b o, G.get? b = some o → s'.heap.get? b = some o ∧ ((B'.get? b).isSome = true ∨ b ∈ frs X.stack) := fun b o e => by
      cases q : ((B'.get? b).isSome || decide (b ∈ frs X.stack)) with
      | false => rw [g2 b q] at e; cases e
      | true =>
        rw [g1 b q] at e
        exact ⟨e, by simpa [Bool.or_eq_true] using q⟩
    have old : ∀ {b : Addr} {o : Obj}, s3.heap.get? b = some o → b ≠ ce.locals := fun {b o} e => by rw [cL]; exact Nat.ne_of_lt (Heap.lt_size e)
    have ib : Un (frs X.stack) fp H3 H' s3.heap s.heap := I0.base
    have J : Inv X pins σ H2 { s3 with heap := G, gens := s'.gens, drawn := s'.drawn, toks := s'.toks } := by
      refine I3.call (ch := fp) ⟨fun b o e n hb hx => ?_, fun b o e n hb hx => ?_, fun b o e n hx => ?_, fun b o e hx => ?_, fun b xs e => ub.tups b xs (ib.tups b xs e), fun b o u e => ub.frzs b o u (ib.frzs b o u e), fun b ps e => ?_⟩ (hok'.kept gB) ag
        fun b hb => ⟨(f3 b hb).1.2.2.2.1, (f3 b hb).1.2.1, (f3 b hb).1.2.2.2.2.1, (f3 b hb).1.2.2.2.2.2⟩
      · exact gB b o ((bk b (old e)).trans (ub.keep b o (ib.keep b o e n hb hx) (ib.free b o e n hx) hb))
      · obtain ⟨sl, e1⟩ := ib.slot b o e n hb hx
        obtain ⟨sl2, e2⟩ := ub.slot b _ e1 hb
        exact ⟨sl2, by rw [gF b hb]; exact e2⟩
      · obtain ⟨o', e1⟩ := ib.there b o e hx
        exact ub.free b o' e1 (ib.free b o e n hx)
      · obtain ⟨o', e1⟩ := ib.there b o e hx
        by_cases hb : b ∈ frs X.stack
        · obtain ⟨sl, q⟩ := ub.slot b o' e1 hb
          exact ⟨_, by rw [gF b hb]; exact q⟩
        · obtain ⟨o2, q⟩ := ub.there b o' e1 hb
          exact ⟨o2, gB b o2 ((bk b (old e)).trans q)⟩
      · obtain ⟨m1, e1⟩ := ib.tbls b ps e
        obtain ⟨m2, e2⟩ := ub.tbls b _ e1
        exact ⟨m1 ++ m2, by rw [e2, Array.append_assoc]⟩
    have os3 : s'.os = s3.os := os.trans I0.os
    refine ⟨a, B', _, pins, σ, H2, cls, d, rfl, J, fun b o e hb => ?_, fun b o e hnf => ?_, .inr (.inr (by rw [hs]; exact held3)), na, os3, ag, hW _ _ _ _ hE⟩
    · obtain ⟨e', h⟩ := og b o e
      rcases h with h | h
      · obtain ⟨o', q⟩ := Option.isSome_iff_exists.mp h
        have z := stB b o' q
        rw [e'] at z; cases z
        exact q
      · exact absurd h hb
    · obtain ⟨e', h⟩ := og b o e
      have hbn : b ≠ ce.locals := by
        rintro rfl
        rcases h with h | h
        · rw [bn] at h; cases h
        · exact nF h
      obtain ⟨sl, e1⟩ := up1 b o e' hnf
      exact up3 b { o with slots := sl } ((sb.2 b hbn).trans e1) hnf
  exact pass
end

section
variable {X : Cx}
theorem pe_lcX {elt tg iter : Expr} {ifs : List Expr} {scope : Scope} {own : List (Str × Nat)} {pos : Pos} {wi : TI} {g : TG} {tt : TT} {te : TE} {W : WX} {E : XK} (hst : X.stack = X.env :: X.outer) (hfr : X.env.frame = some X.env.locals) (tk : Takes X W) (hW : ∀ cls d σ H, E cls d H → W cls d σ H)
    (hc : X.calm = true) (hN : X.N.Nodup) (hi : PI X tg iter wi) (ok : BlkOk X.N X.env.scope scope own)
    (hg : ∀ (s : Shared) (H : Hp) (C : Addr) (cl : List (Str × Addr)) (fp : List Addr), PG (X.blk s H scope (compEnvC scope cl C X.env) fp) tg g) (ht : ∀ (s : Shared) (H : Hp) (C : Addr) (cl : List (Str × Addr)) (fp : List Addr), PTs (X.blk s H scope (compEnvC scope cl C X.env) fp) ifs tt)
    (he : ∀ (s : Shared) (H : Hp) (C : Addr) (cl : List (Str × Addr)) (fp : List Addr) (xe : Value → Shared → Prop), Passes (L2.CX X.prog X.w) (blkX X s H scope (compEnvC scope cl C X.env) fp xe) E → PE (blkX X s H scope (compEnvC scope cl C X.env) fp xe) elt te) (hs : ∀ x, foldedSetIterable iter X.env x = pure x := by intro _; rfl) :
    PE X (.ListComp elt [⟨tg, iter, ifs, 0⟩] scope pos) (tLc wi g tt te (own.map (·.2))) := by
  refine ⟨fun pins s σ H Q I h => ?_⟩
  rw [eval_ListComp]
  have hfree : ∀ y ∈ scope.names, y.2 = .free → ∃ c, X.env.cells.lookup y.1 = some c := fun y hy e => by
    rcases ok.free y hy e with k | k
    · exact I.ok.has _ (.inl k)
    · exact I.ok.has _ (.inr k)
  refine comprehension_at (use := none) (Q := EP X pins σ Q) rfl hs (closure_ok hfree) ok.kind (fun y hy e => by rw [ok.uniq y hy, e])
    (thn (hi.run pins s σ H _ I h) fun xv s1 hx => thn hx fun itv s2 h2 => ?_)
  obtain ⟨it, fp, tn, J, H2, e, I2, T, st2, f2, q⟩ := h2
  subst e
  refine wpAny_newObj_type (newEnv_comp ?_) (by show 0 ≤ sizeLine; decide)
  generalize hD : s2.heap.objs.size = D
  have hDn : H2 D = none := I2.hok.fresh (Nat.le_of_eq hD)
  obtain ⟨W', ⟨m0, w0⟩, turn⟩ := q D hDn
  -- the new list
  generalize hs3 : ({ s2 with heap := s2.heap.push { cls := .type "list", data := .seq ([] : List Value).toArray } } : Shared) = s3
  have I3 : Inv X pins σ (upd H2 D (.lst [])) s3 := by
    rw [← hs3]
    refine I2.laid (t' := s2.toks) (fun b o e => Heap.get?_push_of_some _ e) (Nat.le_of_eq hD) ⟨Nat.zero_le _, [], 0, .nil, ?_⟩
    rw [← hD]
    exact Heap.get?_push_size _ rfl
  have h3 : s3.heap = s2.heap.push { cls := .type "list", data := .seq ([] : List Value).toArray } := by rw [← hs3]
  have sz : ∀ b ∈ fp, b < s2.heap.objs.size := fun b hb => by
    obtain ⟨o, e, _⟩ := T.obj _ _ st2 b hb
    exact Heap.lt_size e
  have f3 : ∀ b ∈ fp, FpOk X pins (upd H2 D (.lst [])) b ∧ b < s3.heap.objs.size := fun b hb => by
    have hlt := sz b hb
    refine ⟨⟨?_, (f2 b hb).2⟩, by rw [h3, Heap.size_push]; exact Nat.lt_succ_of_lt hlt⟩
    rw [upd_ne (by rw [← hD]; exact Nat.ne_of_lt hlt)]
    exact (f2 b hb).1
  have st3 : tn 0 s3.heap := T.keep _ _ _ st2 fun b _ o e => by rw [h3]; exact Heap.get?_push_of_some _ e
  have I4 := block_start I3 ok hN f3
  have pg := hg s3 (upd H2 D (.lst [])) s3.heap.objs.size (cellsFrom (s3.heap.objs.size + 1) scope.names (cloFrom X.env.cells scope.names [])) fp
  have pt := ht s3 (upd H2 D (.lst [])) s3.heap.objs.size (cellsFrom (s3.heap.objs.size + 1) scope.names (cloFrom X.env.cells scope.names [])) fp
  have pe := he s3 (upd H2 D (.lst [])) s3.heap.objs.size (cellsFrom (s3.heap.objs.size + 1) scope.names (cloFrom X.env.cells scope.names [])) fp
  show codeAny _ _ (.compStart (.ListComp elt [⟨tg, iter, ifs, 0⟩] scope pos) 0 (.ref it) (.ref D) (compEnvC scope (cellsFrom (s3.heap.objs.size + 1) scope.names (cloFrom X.env.cells scope.names [])) s3.heap.objs.size X.env)) (compEnds (model X.prog X.w) X.A X.xe none (EP X pins σ Q) (.ref D) (compEnvC scope (cellsFrom (s3.heap.objs.size + 1) scope.names (cloFrom X.env.cells scope.names [])) s3.heap.objs.size X.env)) { s3 with heap := pushCells (s3.heap.push { cls := .type "dict", data := .dict #[] }) scope.names }
  have nfp : ∀ b ∈ fp, (upd H2 D (.lst [])) b = none := fun b hb => (f3 b hb).1.1
  generalize hce : compEnvC scope (cellsFrom (s3.heap.objs.size + 1) scope.names (cloFrom X.env.cells scope.names [])) s3.heap.objs.size X.env = ce at I4 pg pt pe ⊢
  have cL : ce.locals = s3.heap.objs.size := by subst hce; rfl
  have cF : ce.frame = X.env.frame := by subst hce; rfl
  generalize hH3 : upd H2 D (.lst []) = H3 at I3 I4 pg pt pe w0 nfp f3
  generalize hs4 : ({ s3 with heap := pushCells (s3.heap.push { cls := .type "dict", data := .dict #[] }) scope.names } : Shared) = s4 at I4 ⊢
  have pass := fun (xe : Value → Shared → Prop) (hxe : xe = notedBy (model X.prog X.w) X.A ce (CompFails (model X.prog X.w) X.A X.xe ce)) => blk_passes (scope := scope) (fp := fp) hst hfr tk hW I3 cL cF f3 hxe
  have pe := pe _ (pass _ rfl)
  have st4 : tn 0 s4.heap := T.keep _ _ _ st3 fun b _ o e => by rw [← hs4]; exact pushCells_keeps _ _ _ _ (Heap.get?_push_of_some _ e)
  have stat : ∀ {σ' : L2.St} {H' : Hp} {s' : Shared}, Inv (X.blk s3 H3 scope ce fp) [] σ' H' s' → (∀ b ∈ fp, H' b = none) → ∀ b ∈ fp, FpOk (X.blk s3 H3 scope ce fp) [] H' b := fun {σ' H' s'} I' hn b hb =>
    ⟨hn b hb, (I'.ok.exf b hb).1, I'.ok.exfs b hb, .inl hb, fun x c e => (I'.ok.exf b hb).2 x c e, fun p hp => absurd (show p ∈ ([] : List (Addr × Obj)) ++ [] from hp) (by simp)⟩
  have loop : codeAny (model X.prog X.w) X.A (.compLoop (.ListComp elt [⟨tg, iter, ifs, 0⟩] scope pos) 0 (.ref it) (.ref D) ce) (compEnds (model X.prog X.w) X.A X.xe none (EP X pins σ Q) (.ref D) ce) s4 := by
    refine compLoop_any (fun n s' => ∃ i H', Inv (X.blk s3 H3 scope ce fp) [] (wipe σ (own.map (·.2))) H' s' ∧ tn i s'.heap ∧ (∀ b ∈ fp, H' b = none) ∧ W' i n H') ?_ m0 ⟨0, H3, I4, st4, nfp, w0⟩
    rintro n s5 ⟨i, H5, I5, st5, n5, w5⟩
    rcases turn i n H5 w5 with ⟨stop, qq⟩ | ⟨go, Nx, hNx, step⟩
    · have td := T.done (X.blk s3 H3 scope ce fp) rfl rfl rfl hc i [] s5 _ H5 (fun _ _ => False) I5 (stat I5 n5) st5 stop
      refine thnF td fun r s6 ⟨hr, I6⟩ => ?_
      subst hr
      -- back in the def's context
      have I7 : Inv X pins σ H5 s6 := I3.call' (ch := fp) I6.os I6.base I6.hok I6.bare fun b hb => ⟨(f3 b hb).1.2.2.2.1, (f3 b hb).1.2.1, (f3 b hb).1.2.2.2.2.1, (f3 b hb).1.2.2.2.2.2⟩
      have nC : H5 s3.heap.objs.size = none := by
        have z : H5 ce.locals = none := I6.free
        rw [cL] at z
        exact z
      obtain ⟨m, hn, _⟩ := I6.loc
      have hn : s6.heap.Ns ce.locals m := hn
      refine ⟨m, hn, fun h'' sb => ?_⟩
      rw [cL] at sb
      obtain ⟨f0, f1, f2, f3, f4, f5⟩ := I3.fpOk (Nat.le_refl _) nC
      exact ⟨.ref D, H5, I7.turned (t' := s6.toks) (fun b o hb e => (sb.2 b hb).trans e) f0 f1 f3 f4 f5, rfl, qq⟩
    · have ti := T.item (X.blk s3 H3 scope ce fp) rfl rfl rfl hc i [] s5 _ H5 (fun _ _ => False) I5 (stat I5 n5) st5 go
      refine thnF ti fun r s6 ⟨u, hr, h6⟩ => ?_
      subst hr
      refine thnF h6 fun _ s7 ⟨x, H7, I7, r7, y7, st7, n7⟩ => ?_
      have I7' := I7.pinned (stat I7 n7) (T.obj _ _ st7)
      refine thnF (pg.run _ s7 _ H7 x u _ I7' r7 (step x H7 y7)) fun _ s8 ⟨σ8, H8, I8, hw8, q8⟩ => ?_
      refine thnF (pt.run _ s8 σ8 H8 _ I8 q8) fun b s9 ⟨H9, I9, q9⟩ => ?_
      -- the turn's end
      have fin : ∀ {s' : Shared} {H' : Hp}, Inv (X.blk s3 H3 scope ce fp) ([] ++ pinsAt fp s7.heap) σ8 H' s' → Nx H' → ∃ m, m < n ∧ ∃ i H', Inv (X.blk s3 H3 scope ce fp) [] (wipe σ (own.map (·.2))) H' s' ∧ tn i s'.heap ∧ (∀ b ∈ fp, H' b = none) ∧ W' i m H' := fun {s' H'} I' nx => by
        obtain ⟨m', hm, w'⟩ := hNx H' nx
        have pin' : ∀ b ∈ fp, ∀ o, s7.heap.get? b = some o → s'.heap.get? b = some o ∧ H' b = none := fun b hb o e =>
          let z := I'.pin (b, o) (List.mem_append_right _ (List.mem_append_right _ (mem_pinsAt hb e)))
          ⟨z.1, z.2.1⟩
        have hl : (wipe σ (own.map (·.2))).length = σ8.length := by rw [← hw8, wipe_length]
        refine ⟨m', hm, i + 1, H', (I'.unpinned (pins := [])).weak hl (fun j v e => ?_), T.keep _ _ _ st7 fun b hb o e => (pin' b hb o e).1, fun b hb => ?_, w'⟩
        · rw [← hw8] at e
          exact (wipe_some e).1
        · obtain ⟨o, e, _⟩ := T.obj _ _ st7 b hb
          exact (pin' b hb o e).2
      cases b with
      | false =>
        simp only [Bool.false_eq_true, if_false] at q9 ⊢
        exact fin I9 q9
      | true =>
        simp only [if_true] at q9 ⊢
        refine thn (pe.run _ s9 σ8 H9 _ (I9.wish _) q9) fun z s10 ⟨yv, H10, I10, r10, acc, hD10, hz10, nx⟩ => ?_
        exact app_ok (X := X.blk s3 H3 scope ce fp) I10.unwish hD10 hz10 r10 fun s11 I11 => fin I11 nx
  exact codeAny_compStart_list loop (T.self X.A 0 _ _ _ st4 loop)
end
end Q7

set_option Elab.async false
set_option linter.all false
set_option maxRecDepth 100000
set_option maxHeartbeats 4000000
/-! QE: isinstance of a caught error that has fields; is True; a written text and a value that wants a token. -/
namespace Q7
open PySem PySem.Spec PyProof.Rows L2 PySem.W

/-- what the class of a caught error must say -/
structure IsX (K : PySem.W.Frag) (C : Addr) : Prop where
  xf : XfC K C
  ha : PySem.W.findIn K (.ref C) "__class__" = some (some (.builtin "object.__class__"))
  hn : PySem.W.specialIn K (.builtin "object.__class__") "__get__" = some (some (.builtin "getset_descriptor.__get__"))
  ht : PySem.W.takesIn K (.builtin "object.__class__") = some true
  hm : PySem.W.mroIn K C (.type "object") = some true
/-- isinstance(e, c), e the error of the class at C that the suite holds, its fields at d -/
def rIsX (K : PySem.W.Frag) (cls : Value) (d : Option Addr) (a : Addr) : List V → Hp → VK → Prop := fun xs H Q => ∃ (C D : Addr) (b : Bool) (dd : Addr) (fs : List (Str × V)), xs = [.ref a, .ref D] ∧ cls = .ref C ∧ IsX K C ∧ d = some dd ∧ H dd = some (.xd fs) ∧ PySem.W.kitOne K (.ref C) (.ref D) = some b ∧ Q (.bl b) H
theorem call_isX {X : Cx} {a : Addr} {oe : Obj} {cls : Value} {d : Option Addr} {pn : List (Addr × Obj)} (hz : Zc cls d oe) (hf : ∃ vs, oe.data = .fields vs) : CallR (X.suite a ((a, oe) :: pn)) (.builtin "isinstance") (rIsX X.K cls d a) := by
  intro pins s σ H xs us Q I r h
  obtain ⟨C, D, b, dd, fs, rfl, ec, T, ed, hd, e, q⟩ := h
  obtain ⟨u1, u2, rfl, r1, r2⟩ := vals2 r
  cases (show u1 = Value.ref a from r1)
  cases (show u2 = Value.ref D from r2)
  subst ec ed
  obtain ⟨hget, _⟩ := I.pin (a, oe) (List.mem_append.mpr (.inl List.mem_cons_self))
  obtain ⟨vs, hv⟩ := hf
  have hx : ObjOk X.prog X.w H s.heap dd (.xd fs) := I.hok dd _ hd
  obtain ⟨mA, ⟨od, es, ep, ho, hr⟩, _⟩ := hx
  have J : PySem.W.InstAt s.heap a oe C (some od) := ⟨hget, hz.1, by unfold PySem.W.notCls; rw [hv] <;> rfl, by rw [hz.2]; exact ho⟩
  have hcl : (PySem.W.clsIn X.K C).isSome = true := by
    obtain ⟨cd, hc, _⟩ := PySem.W.any_some T.xf.hdC
    rw [hc] <;> rfl
  exact PySem.W.kia_one (PySem.W.kitx_exc hcl T.xf.ga T.xf.gg T.xf.exC T.ha T.hn T.ht T.hm) I.kIn J e (fun z => nomatch z) fun tk => ⟨.bl b, H, I.kept (t' := tk) fun _ _ z => z, rfl, q⟩

/-- x is True, x is False: any value -/
theorem RelV.bool_iff {x : V} {v : Value} {k : Bool} (r : RelV x v) : (v == Value.bool k) = decide (x = .bl k) := by
  cases x with
  | bl b =>
    obtain rfl : v = Value.bool b := r
    by_cases h : b = k
    · subst h
      simp
    · have h1 : ¬ (V.bl b = V.bl k) := fun z => h (V.bl.inj z)
      have h2 : (Value.bool b == Value.bool k) = false := by
        cases b <;> cases k <;> first | rfl | exact absurd rfl h
      rw [h2, decide_eq_false h1]
  | non => obtain rfl : v = Value.none := r; exact (decide_eq_false (fun z => nomatch z)).symm
  | int i => obtain ⟨t, rfl⟩ := r; exact (decide_eq_false (fun z => nomatch z)).symm
  | str x => obtain ⟨t, rfl⟩ := r; exact (decide_eq_false (fun z => nomatch z)).symm
  | byt b => obtain ⟨t, rfl⟩ := r; exact (decide_eq_false (fun z => nomatch z)).symm
  | flt b => obtain ⟨t, rfl⟩ := r; exact (decide_eq_false (fun z => nomatch z)).symm
  | ref a => obtain rfl : v = Value.ref a := r; exact (decide_eq_false (fun z => nomatch z)).symm
  | ty n => obtain rfl : v = Value.type n := r; exact (decide_eq_false (fun z => nomatch z)).symm
/-- None, a bool, an int, a text -/
def flat4 : V → Bool
  | .non => true
  | .bl _ => true
  | .int _ => true
  | .str _ => true
  | _ => false
theorem op_isK {X : Cx} : OpR X (compareOp .Is) (fun x y H Q => ∃ k, y = .bl k ∧ flat4 x = true ∧ Q (.bl (decide (x = .bl k))) H) := by
  intro pins s σ H x y v u Q I rx ry h
  obtain ⟨k, rfl, hf, q⟩ := h
  cases (show u = Value.bool k from ry)
  have e := RelV.bool_iff (k := k) rx
  refine wpAny_is_plain ?_ (by rw [e]; exact ⟨.bl _, H, I, rfl, q⟩)
  cases x <;> first
    | (cases (show v = Value.none from rx); rfl)
    | (cases (show v = Value.bool _ from rx); rfl)
    | (obtain ⟨t, rfl⟩ := (show ∃ t, v = Value.int _ t from rx); rfl)
    | (obtain ⟨t, rfl⟩ := (show ∃ t, v = Value.str _ t from rx); rfl)
    | cases hf

/-- 'written' + f, where f wants a token -/
theorem pe_catC {X : Cx} {f : Expr} {tf : TE} {x : Str} {j : Nat} {p pos : Pos} (hf : PET X f tf) : PE X (.BinOp (.Constant (.str x) j p) .Add f pos) (tOp (fun x y H Q => ∃ i j, x = .str i ∧ y = .str j ∧ i.length + j.length ≤ sizeLine ∧ Q (.str (i ++ j)) H) (tC (.str x)) tf) := by
  refine ⟨fun pins s σ H Q I h => ?_⟩
  refine wpAny_BinOp (Calls.Constant_str ?_)
  refine thn (hf pins { s with toks := s.toks + 1 } σ H _ (by show 1 ≤ s.toks + 1; omega) (I.tok _) h) fun u s2 ⟨y, H2, I2, r2, q2⟩ => ?_
  exact op_add_str pins s2 σ H2 (.str x) y (.str x s.toks) u Q I2 ⟨_, rfl⟩ r2 q2
end Q7

set_option Elab.async false
set_option linter.all false
set_option maxRecDepth 100000
set_option maxHeartbeats 2000000
/-! QH: a Hook that tells the module's facts, the defs, the tables, the methods with a cell __class__, and one more Bool; the statics are among what is looked at. -/
namespace He
open PySem PySem.Spec PyProof.Rows L2
def asQ (g : Addr → Option Obj) : Nat → List Addr
  | 0 => [mainGlobals, cStatics]
  | n + 1 => growD g (asQ g n)
/-- a method of the class cls that names super() -/
structure DefC where
  at_ : Str × Option Str
  name : Str
  qual : Str
  params : Arguments
  body : List Stmt
  scope : Scope
  cls : Str
abbrev FnC : Type := Option (Str × Str × Arguments × FuncBody × Scope × Addr × List Str × Addr × Value)
def fnC (K : PySem.W.Frag) (p : Str × Option Str) : FnC := match K.lookup (fAd K p) with
  | some ⟨_, _, .func fd, _⟩ => some (fd.name, fd.qualname, fd.params, fd.body, fd.scope, fd.globals, fd.closure.map (·.1), fd.builtins, fd.defaults)
  | _ => none
def DefC.val (d : DefC) : FnC := some (d.name, d.qual, d.params, .stmts d.body, d.scope, mainGlobals, ["__class__"], builtinsNs, .none)
def cdaOf (K : PySem.W.Frag) (p : Str × Option Str) : Addr := match K.lookup (fAd K p) with
  | some ⟨_, _, .func fd, _⟩ => (match fd.code with
    | .ref c => c
    | _ => 0)
  | _ => 0
def ccOf (K : PySem.W.Frag) (p : Str × Option Str) : Addr := match K.lookup (fAd K p) with
  | some ⟨_, _, .func fd, _⟩ => (match fd.closure with
    | [(_, c)] => c
    | _ => 0)
  | _ => 0
def fileB (K : PySem.W.Frag) (c : Addr) (file : Str) : Bool := match K.lookup c with
  | some ⟨_, _, .fields vs, _⟩ => (match (vs[2]? : Option Value) with
    | some (.str f _) => file == f
    | _ => false)
  | _ => false
def cellB (K : PySem.W.Frag) (c D : Addr) : Bool := match K.lookup c with
  | some ⟨_, _, .cell (some (.ref C)), _⟩ => decide (C = D)
  | _ => false
def codeB (K : PySem.W.Frag) (p : Str × Option Str) : Bool := match K.lookup (fAd K p) with
  | some ⟨_, _, .func fd, _⟩ => decide (fd.code = .ref (cdaOf K p))
  | _ => false
def DefC.ok (K : PySem.W.Frag) (file : Str) (d : DefC) : Bool := PySem.W.keepIn K (.ref (fAd K d.at_)) && (codeB K d.at_ && (PySem.W.codeIn K (.ref (cdaOf K d.at_)) d.qual && (fileB K (cdaOf K d.at_) file && cellB K (ccOf K d.at_) (ga K d.cls))))

/-! ### an own exception class over ValueError -/
def oexB (K : PySem.W.Frag) (C : Addr) : Bool := match K.lookup C with
  | some ⟨.type t, _, .cls cd, sl⟩ => decide (t = "type") && (match cd.mro, sl.toList with
    | .ref C' :: bm, [_, _, _, _, some (.builtin n), _] => decide (C' = C) && (decide (n = "ValueError.__new__") && (!cd.hasDel && (cd.hasDict && PySem.HandSPX.refsVE bm)))
    | _, _ => false)
  | _ => false
theorem oexB_ok {K : PySem.W.Frag} {C : Addr} (h : oexB K C = true) : ∃ nm q N bs bm sn sub ab col dd k0 k1 k2 k3 k5, K.lookup C = some (excClassObj nm q C N bs bm true sn sub ab col dd k0 k1 k2 k3 k5 "ValueError.__new__") ∧ PySem.HandSPX.refsVE bm = true := by
  unfold oexB at h
  split at h
  · rename_i t dd cd sl ho
    obtain ⟨h0, hA⟩ := ba h
    have et : t = "type" := of_decide_eq_true h0
    subst et
    clear h h0
    split at hA
    · rename_i C' bm k0 k1 k2 k3 n k5 hm hs
      obtain ⟨h1, hB⟩ := ba hA
      obtain ⟨h2, hD⟩ := ba hB
      obtain ⟨h3, hE⟩ := ba hD
      obtain ⟨h4, h5⟩ := ba hE
      have e1 : C' = C := of_decide_eq_true h1
      have e2 : n = "ValueError.__new__" := of_decide_eq_true h2
      clear hA hB hD hE h1 h2
      obtain ⟨nm, bs, mro, ns, qn, hd, sn, sub, ab, col, del⟩ := cd
      dsimp only at hm h3 h4
      subst hm e1 e2
      have h3' : del = false := by simpa using h3
      subst h3' h4
      have hsl : sl = #[k0, k1, k2, k3, some (.builtin "ValueError.__new__"), k5] := by
        obtain ⟨l⟩ := sl
        simp only at hs
        rw [hs]
      subst hsl
      exact ⟨nm, qn, ns, bs, bm, sn, sub, ab, col, dd, k0, k1, k2, k3, k5, ho, h5⟩
    · cases hA
  · cases h
def excB (K : PySem.W.Frag) (C : Addr) : Bool := oexB K C && (eqO (PySem.W.findIn K (.ref C) "__setattr__") (some (some (.builtin "object.__setattr__"))) && (decide (PySem.W.subIn K (.ref C) (.type "BaseException") = some true) && (decide (PySem.W.typeIn K (.ref C) = some (.type "type")) && PySem.W.keepIn K (.ref C))))
theorem excB_ok {K : PySem.W.Frag} {C : Addr} (h : excB K C = true) : OexC K C := by
  obtain ⟨h1, h⟩ := ba h
  obtain ⟨h2, h⟩ := ba h
  obtain ⟨h3, h⟩ := ba h
  obtain ⟨h4, h5⟩ := ba h
  exact ⟨oexB_ok h1, eqO_ok h2, of_decide_eq_true h3, of_decide_eq_true h4, h5⟩
def supB (K : PySem.W.Frag) (C : Addr) : Bool := decide (PySem.W.mroIn K C (.ref C) = some true) && (eqO (PySem.W.ks_superIn K C C "__init__") (some (some (.builtin "ValueError.__init__"))) && (decide (PySem.W.subIn K (.ref C) (.type "ValueError") = some true) && eqO (PySem.W.nsIn K cStatics "thirdparty.any") (some none)))
theorem supB_ok {K : PySem.W.Frag} {C : Addr} (h : supB K C = true) : Q7.SupC K C := by
  obtain ⟨h1, h⟩ := ba h
  obtain ⟨h2, h⟩ := ba h
  obtain ⟨h3, h4⟩ := ba h
  exact ⟨of_decide_eq_true h1, eqO_ok h2, of_decide_eq_true h3, eqO_ok h4⟩
def digB (K : PySem.W.Frag) : Bool := PySem.W.nsOkIn K cStatics && eqO (PySem.W.nsIn K cStatics "sys.int_max_str_digits") (some none)
theorem digB_ok {K : PySem.W.Frag} (h : digB K = true) : Q7.NoDig K := by
  obtain ⟨h1, h2⟩ := ba h
  exact ⟨h1, eqO_ok h2⟩

/-! ### the method found -/
theorem DefC.supF {P : Program} {K : PySem.W.Frag} {d : DefC} (e : fnC K d.at_ = d.val) (c : d.ok K P.main.file = true) (top : (P.main.scope.names.lookup ("super" : Str)).isSome = false) :
    ∃ (oc : Value) (od : Option Addr) (kV doc pm ct : Value) (an : Option Addr) (osl : Array (Option Value)),
      K.lookup (fAd K d.at_) = some ⟨oc, od, .func (PySem.W.ksFn d.name d.qual d.params d.body d.scope .none kV doc pm an (.ref (cdaOf K d.at_)) ct (ccOf K d.at_)), osl⟩ ∧
      PySem.W.codeIn K (.ref (cdaOf K d.at_)) d.qual = true ∧ Q7.SupF P K (ga K d.cls) (cdaOf K d.at_) (ccOf K d.at_) ∧ PySem.W.keepIn K (.ref (fAd K d.at_)) = true := by
  obtain ⟨kp, c⟩ := ba c
  obtain ⟨cb, c⟩ := ba c
  obtain ⟨c1, c⟩ := ba c
  obtain ⟨c2, c3⟩ := ba c
  have code : ∃ (ccl : Value) (cdd : Option Addr) (vs : Array Value) (ccs : Array (Option Value)) (file : Str) (tf : Tok), K.lookup (cdaOf K d.at_) = some ⟨ccl, cdd, .fields vs, ccs⟩ ∧ vs[2]? = some (.str file tf) ∧ ((P.main.file : Str) == file) = true := by
    unfold fileB at c2
    split at c2
    · rename_i c' d' vs sl ho
      split at c2
      · rename_i f t hv
        exact ⟨_, _, vs, _, f, t, ho, hv, c2⟩
      · cases c2
    · cases c2
  have cell : ∃ (cl : Value) (cld : Option Addr) (csl : Array (Option Value)), K.lookup (ccOf K d.at_) = some ⟨cl, cld, .cell (some (.ref (ga K d.cls))), csl⟩ := by
    unfold cellB at c3
    split at c3
    · rename_i c' d' C sl ho
      have e : C = ga K d.cls := of_decide_eq_true c3
      rw [e] at ho
      exact ⟨_, _, _, ho⟩
    · cases c3
  unfold fnC at e
  cases q : K.lookup (fAd K d.at_) with
  | none =>
    rw [q] at e
    cases e
  | some o =>
    obtain ⟨oc, od, dt, osl⟩ := o
    rw [q] at e
    cases dt with
    | func fd =>
      unfold codeB at cb
      rw [q] at cb
      have cb2 : fd.code = .ref (cdaOf K d.at_) := of_decide_eq_true cb
      have cc2 : ∀ c, fd.closure = [(("__class__" : Str), c)] → ccOf K d.at_ = c := fun c z => by
        unfold ccOf
        rw [q]
        show (match fd.closure with | [(_, c)] => c | _ => 0) = c
        rw [z]
      obtain ⟨n1, n2, n3, n4, n5, n6, n7, n8, n9, n10, n11, n12, n13, n14, n15⟩ := fd
      have e2 : (some (n1, n2, n3, n4, n5, n6, List.map (fun q : Str × Addr => q.1) n7, n15, n8) : FnC) = some (d.name, d.qual, d.params, FuncBody.stmts d.body, d.scope, mainGlobals, [("__class__" : Str)], builtinsNs, Value.none) := e
      simp only [Option.some.injEq, Prod.mk.injEq] at e2
      obtain ⟨h1, h2, h3, h4, h5, h6, h7, h8, h9⟩ := e2
      subst h1 h2 h3 h4 h5 h6 h8 h9
      have cl7 : ∃ c, n7 = [(("__class__" : Str), c)] := by
        cases n7 with
        | nil => cases h7
        | cons p r =>
          cases r with
          | nil =>
            obtain ⟨p1, p2⟩ := p
            simp at h7
            exact ⟨p2, by rw [h7]⟩
          | cons _ _ => simp at h7
      obtain ⟨c7, e7⟩ := cl7
      have e8 := cc2 c7 e7
      subst e7
      have cb3 : n13 = .ref (cdaOf K d.at_) := cb2
      subst cb3
      rw [e8] at cell ⊢
      exact ⟨oc, od, n9, n10, n11, n14, n12, osl, rfl, c1, ⟨code, cell, top⟩, kp⟩
    | _ => cases e

/-! ### the Hook -/
abbrev AlQ : Type := AlT × (Bool × List FnC)
def obsQ (fa : List Fa) (fn : List DefD) (fc : List DefC) (ts : List Tab) (ex : PySem.W.Frag → Bool) (file : Str) (K : PySem.W.Frag) : AlQ := (obsT fa fn ts K, (ex K && fc.all fun d => d.ok K file, fc.map fun d => fnC K d.at_))
def valQ (fn : List DefD) (fc : List DefC) (ts : List Tab) (w : World) : AlQ := (valT fn ts w, (true, fc.map DefC.val))
def SaysQ (fa : List Fa) (fn : List DefD) (fc : List DefC) (ts : List Tab) (ex : PySem.W.Frag → Bool) (file : Str) (w : World) (K : PySem.W.Frag) : Prop := obsQ fa fn fc ts ex file K = valQ fn fc ts w
def obsQG (n : Nat) (fa : List Fa) (fn : List DefD) (fc : List DefC) (ts : List Tab) (ex : PySem.W.Frag → Bool) (file : Str) (g : Addr → Option Obj) : AlQ := obsQ fa fn fc ts ex file (frG g (asQ g n))
def hookQ (n : Nat) (fa : List Fa) (fn : List DefD) (fc : List DefC) (ts : List Tab) (ex : PySem.W.Frag → Bool) (file : Str) : PySem.W.Hook where
  α := AlQ
  obs := fun s => obsQG n fa fn fc ts ex file s.heap.get?
  val := fun w => valQ fn fc ts w
  says := fun w h => ∃ K : PySem.W.Frag, K.In h ∧ SaysQ fa fn fc ts ex file w K
  of := fun _ _ e => ⟨_, frG_in, e⟩
  keeps := fun _ _ _ ⟨K, hK, c⟩ k => ⟨K, PySem.W.Frag.In.keeps hK k, c⟩
theorem obsQG_eq {n : Nat} {fa : List Fa} {fn : List DefD} {fc : List DefC} {ts : List Tab} {ex : PySem.W.Frag → Bool} {file : Str} {g : Addr → Option Obj} {s : Shared} (h : ∀ a, g a = s.heap.get? a) : obsQG n fa fn fc ts ex file g = (hookQ n fa fn fc ts ex file).obs s := by
  have e : g = s.heap.get? := funext h
  rw [e] <;> rfl
section
variable {fa : List Fa} {fn : List DefD} {fc : List DefC} {ts : List Tab} {ex : PySem.W.Frag → Bool} {file : Str} {w : World} {K : PySem.W.Frag}
theorem SaysQ.t (c : SaysQ fa fn fc ts ex file w K) : SaysT fa fn ts w K := congrArg (fun z : AlQ => z.1) c
theorem SaysQ.d (c : SaysQ fa fn fc ts ex file w K) : SaysD fa fn K := SaysT.d c.t
theorem SaysQ.more (c : SaysQ fa fn fc ts ex file w K) : ex K = true := (ba (show (ex K && fc.all fun d => d.ok K file) = true from congrArg (fun z : AlQ => z.2.1) c)).1
theorem SaysQ.defc (c : SaysQ fa fn fc ts ex file w K) (i : Nat) {d : DefC} (h : fc[i]? = some d := by rfl) : fnC K d.at_ = d.val ∧ d.ok K file = true := by
  have c2 := (ba (show (ex K && fc.all fun d => d.ok K file) = true from congrArg (fun z : AlQ => z.2.1) c)).2
  have e : fc.map (fun d => fnC K d.at_) = fc.map DefC.val := congrArg (fun z : AlQ => z.2.2) c
  have e2 : (fc.map fun d => fnC K d.at_)[i]? = (fc.map DefC.val)[i]? := by rw [e]
  rw [List.getElem?_map, List.getElem?_map, h] at e2
  exact ⟨Option.some.inj e2, List.all_eq_true.mp c2 d (List.mem_of_getElem? h)⟩
end
end He

set_option Elab.async false
set_option linter.all false
set_option maxRecDepth 100000
set_option maxHeartbeats 0
/-! T80: the text of k79 by places, the facts of its top, the run of the top. -/
namespace K80
open PySem PySem.Spec PyProof.Rows L2
def top (i : Nat) : Stmt := PySem.Challenge.pw_holdorslip_k80_data_first_wrong_sign.main.body.getD i (.Pass ⟨0, 0, 0, 0⟩)
abbrev sTooMany : Stmt := inClass (top 2) 0
abbrev sBadData : Stmt := inClass (top 3) 0
abbrev sInit : Stmt := inClass (top 9) 0
abbrev sSign : Stmt := inClass (top 9) 1
abbrev sRefuse : Stmt := inClass (top 9) 2
abbrev sExpect : Stmt := inClass (top 9) 3
abbrev sRWord : Stmt := inClass (top 9) 4
abbrev sRWhole : Stmt := inClass (top 9) 5
abbrev sRText : Stmt := inClass (top 9) 6
abbrev sRAtom : Stmt := inClass (top 9) 7
abbrev sRNested : Stmt := inClass (top 9) 8
abbrev sRead : Stmt := top 10
abbrev sMix : Stmt := top 12
abbrev sJar : Stmt := top 13
abbrev sDraw : Stmt := top 14
abbrev sBetween : Stmt := top 15
abbrev sPick : Stmt := top 16
abbrev sAtomT : Stmt := top 17
abbrev sDataT : Stmt := top 18
abbrev sBegun : Stmt := top 19
abbrev sInText : Stmt := top 20
abbrev sInNum : Stmt := top 21
abbrev sBehind : Stmt := top 22
abbrev sLRead : Stmt := top 23
abbrev sLetters : Stmt := top 24
abbrev sAtom : Stmt := top 25
abbrev sGrown : Stmt := top 26
abbrev sWrapped : Stmt := top 27
abbrev sSpoilt : Stmt := top 28
abbrev sAgrees : Stmt := top 29
abbrev sGreat : Stmt := top 30
abbrev sLaw : Stmt := top 31
def dG (x : Str) (st : Stmt) : He.DefD := ⟨(x, none), x, x, defArgs st, defBody st, defScope st, [], []⟩
def dM (m q : Str) (st : Stmt) : He.DefD := ⟨("DataReader", some m), m, q, defArgs st, defBody st, defScope st, [], []⟩
def fn : List He.DefD := [dM "__init__" "DataReader.__init__" sInit, dM "sign" "DataReader.sign" sSign, dM "refuse" "DataReader.refuse" sRefuse, dM "expect" "DataReader.expect" sExpect, dM "read_word" "DataReader.read_word" sRWord, dM "read_whole" "DataReader.read_whole" sRWhole,
  dM "read_text" "DataReader.read_text" sRText, dM "read_atom" "DataReader.read_atom" sRAtom, dM "read_nested" "DataReader.read_nested" sRNested, dG "read_data" sRead, dG "_law_mix" sMix, dG "_law_jar" sJar,
  dG "_law_draw" sDraw, dG "_law_between" sBetween, dG "_law_pick" sPick, dG "_law_atom_text" sAtomT, dG "_law_data_text" sDataT, dG "_law_begun_value" sBegun,
  dG "_law_in_text" sInText, dG "_law_in_number" sInNum, dG "_law_behind_value" sBehind, dG "_law_read" sLRead, dG "_law_letters" sLetters, dG "_law_atom" sAtom,
  dG "_law_grown" sGrown, dG "_law_wrapped" sWrapped, dG "_law_spoilt" sSpoilt, dG "_law_agrees" sAgrees, dG "_law_great_agrees" sGreat, dG "law" sLaw]
def fc : List He.DefC := [⟨("TooMany", some "__init__"), "__init__", "TooMany.__init__", defArgs sTooMany, defBody sTooMany, defScope sTooMany, "TooMany"⟩,
  ⟨("BadData", some "__init__"), "__init__", "BadData.__init__", defArgs sBadData, defBody sBadData, defScope sBadData, "BadData"⟩]
def fa : List He.Fa := [.glo "HoldError", .glo "TooMany", .glo "BadData", .glo "DataReader", .glo "WORDS", .int "DATA_FIGURES" 1500,
  .int "DATA_DEPTH" 24, .str "DIGITS" "0123456789", .glo "read_data", .glo "_law_mix", .glo "_law_jar", .glo "_law_draw",
  .glo "_law_between", .glo "_law_pick", .glo "_law_atom_text", .glo "_law_data_text", .glo "_law_begun_value", .glo "_law_in_text",
  .glo "_law_in_number", .glo "_law_behind_value", .glo "_law_read", .glo "_law_letters", .glo "_law_atom", .glo "_law_grown",
  .glo "_law_wrapped", .glo "_law_spoilt", .glo "_law_agrees", .glo "_law_great_agrees", .glo "law", .free "super",
  .free "abs", .free "range", .free "isinstance", .free "str", .free "tuple", .free "len",
  .free "int", .free "bool", .free "min", .free "max", .cls "DataReader", .noat "DataReader" "text",
  .noat "DataReader" "place", .mkr "DataReader", .meth "DataReader" "sign", .meth "DataReader" "refuse", .meth "DataReader" "expect", .meth "DataReader" "read_word",
  .meth "DataReader" "read_whole", .meth "DataReader" "read_text", .meth "DataReader" "read_atom", .meth "DataReader" "read_nested", .noat "TooMany" "what", .noat "TooMany" "limit",
  .noat "BadData" "place", .exm "TooMany" "HoldError" true, .exm "BadData" "HoldError" true]
def ts : List He.Tab := [((fun K => He.ga K "WORDS"), ["n", "t", "f"])]
/-- the i-th value of the table, if it is an object -/
def wAt (k : Str) (K : PySem.W.Frag) : Addr := match PySem.W.nsIn K (He.ga K "WORDS") k with
  | some (some (.ref a)) => a
  | _ => 0
def tupAt (K : PySem.W.Frag) (a : Addr) (vs : List He.Dv) : Bool := match K.lookup a with
  | some ⟨.type c, _, .seq its _, _⟩ => decide (c = "tuple") && (decide (its.size ≤ sizeLine) && He.relAll (vs.map (He.Dv.v K)) its.toList)
  | _ => false
def isiB (K : PySem.W.Frag) (C : Addr) : Bool := L2.xfB K C && (He.eqO (PySem.W.findIn K (.ref C) "__class__") (some (some (.builtin "object.__class__"))) && (He.eqO (PySem.W.specialIn K (.builtin "object.__class__") "__get__") (some (some (.builtin "getset_descriptor.__get__"))) &&
  (decide (PySem.W.takesIn K (.builtin "object.__class__") = some true) && decide (PySem.W.mroIn K C (.type "object") = some true))))
def kitB4 (K : PySem.W.Frag) : Bool := decide (PySem.W.kitOne K (.ref (He.ga K "TooMany")) (.ref (He.ga K "TooMany")) = some true) && (decide (PySem.W.kitOne K (.ref (He.ga K "TooMany")) (.ref (He.ga K "BadData")) = some false) &&
  (decide (PySem.W.kitOne K (.ref (He.ga K "BadData")) (.ref (He.ga K "BadData")) = some true) && decide (PySem.W.kitOne K (.ref (He.ga K "BadData")) (.ref (He.ga K "TooMany")) = some false)))
def initB (K : PySem.W.Frag) (x : Str) : Bool := He.eqO (PySem.W.findIn K (.ref (He.ga K x)) "__init__") (some (some (.ref (He.fAd K (x, some "__init__"))))) && decide (PySem.W.typeIn K (.ref (He.fAd K (x, some "__init__"))) = some (.type "function"))
def ex (K : PySem.W.Frag) : Bool := He.excB K (He.ga K "TooMany") && (He.excB K (He.ga K "BadData") && (He.supB K (He.ga K "TooMany") && (He.supB K (He.ga K "BadData") && (He.digB K && (isiB K (He.ga K "TooMany") && (isiB K (He.ga K "BadData") && (kitB4 K && (initB K "TooMany" && (initB K "BadData" &&
  (He.valsB K (He.ga K "WORDS") [("n", .adr (wAt "n")), ("t", .adr (wAt "t")), ("f", .adr (wAt "f"))] && (tupAt K (wAt "n" K) [.str "none", .non] && (tupAt K (wAt "t" K) [.str "true", .bl true] && tupAt K (wAt "f" K) [.str "false", .bl false]))))))))))))
abbrev R : PySem.W.OpenRow := PySem.W.OpenLaw.row PySem.Challenge.rw_holdorslip_k80_data_first_wrong_sign
abbrev file : Str := R.prog.main.file
abbrev hk : PySem.W.Hook := He.hookQ 6 fa fn fc ts ex file
def ob (s : PySem.W.SharedT) : He.AlQ := He.obsQG 6 fa fn fc ts ex file (HandSHeadRun.getT s)
theorem ob_eq (s : PySem.W.SharedT) : ob s = hk.obs s.abs := He.obsQG_eq (HandSHeadRun.getT_eq s)
def names : List Str := ["HoldError", "TooMany", "BadData", "DATA_FIGURES", "DATA_DEPTH", "DIGITS", "WORDS", "DataReader", "read_data", "_law_mix", "_law_jar", "_law_draw", "_law_between", "_law_pick", "_law_atom_text", "_law_data_text", "_law_begun_value", "_law_in_text", "_law_in_number", "_law_behind_value", "_law_read", "_law_letters", "_law_atom", "_law_grown", "_law_wrapped", "_law_spoilt", "_law_agrees", "_law_great_agrees"]
theorem run0 (b : Bool) (w : World) : HandSHeadRun.RunEq R (PySem.W.view R.prog [31]) hk ob 3000 names (w.withFollow "special-get-raises" b) := by
  intro os
  cases b <;> kernel_rfl
theorem run (w : World) : HandSHeadRun.RunEq R (PySem.W.view R.prog [31]) hk ob 3000 names w :=
  PySem.W.byRow2 "special-get-raises" (P := fun w => HandSHeadRun.RunEq R (PySem.W.view R.prog [31]) hk ob 3000 names w) (run0 false) (run0 true) w
end K80

set_option Elab.async false
set_option linter.all false
set_option maxRecDepth 100000
set_option maxHeartbeats 4000000
/-! U80: what the walk asks of the top of k79. -/
namespace K80
open PySem PySem.Spec PyProof.Rows L2
/-- what the walk asks of the module -/
structure Txt (P : Program) (w : World) (K : PySem.W.Frag) (mg : Str → Option Value) : Prop where
  g_HoldError : mg ("HoldError" : Str) = some (.ref (He.ga K "HoldError"))
  g_TooMany : mg ("TooMany" : Str) = some (.ref (He.ga K "TooMany"))
  g_BadData : mg ("BadData" : Str) = some (.ref (He.ga K "BadData"))
  g_DataReader : mg ("DataReader" : Str) = some (.ref (He.ga K "DataReader"))
  g_WORDS : mg ("WORDS" : Str) = some (.ref (He.ga K "WORDS"))
  i_DATA_FIGURES : ∃ t, mg ("DATA_FIGURES" : Str) = some (.int 1500 t)
  i_DATA_DEPTH : ∃ t, mg ("DATA_DEPTH" : Str) = some (.int 24 t)
  s_DIGITS : ∃ t, mg ("DIGITS" : Str) = some (.str "0123456789" t)
  g_read_data : mg ("read_data" : Str) = some (.ref (He.ga K "read_data"))
  g_l_mix : mg ("_law_mix" : Str) = some (.ref (He.ga K "_law_mix"))
  g_l_jar : mg ("_law_jar" : Str) = some (.ref (He.ga K "_law_jar"))
  g_l_draw : mg ("_law_draw" : Str) = some (.ref (He.ga K "_law_draw"))
  g_l_between : mg ("_law_between" : Str) = some (.ref (He.ga K "_law_between"))
  g_l_pick : mg ("_law_pick" : Str) = some (.ref (He.ga K "_law_pick"))
  g_l_atom_text : mg ("_law_atom_text" : Str) = some (.ref (He.ga K "_law_atom_text"))
  g_l_data_text : mg ("_law_data_text" : Str) = some (.ref (He.ga K "_law_data_text"))
  g_l_begun_value : mg ("_law_begun_value" : Str) = some (.ref (He.ga K "_law_begun_value"))
  g_l_in_text : mg ("_law_in_text" : Str) = some (.ref (He.ga K "_law_in_text"))
  g_l_in_number : mg ("_law_in_number" : Str) = some (.ref (He.ga K "_law_in_number"))
  g_l_behind_value : mg ("_law_behind_value" : Str) = some (.ref (He.ga K "_law_behind_value"))
  g_l_read : mg ("_law_read" : Str) = some (.ref (He.ga K "_law_read"))
  g_l_letters : mg ("_law_letters" : Str) = some (.ref (He.ga K "_law_letters"))
  g_l_atom : mg ("_law_atom" : Str) = some (.ref (He.ga K "_law_atom"))
  g_l_grown : mg ("_law_grown" : Str) = some (.ref (He.ga K "_law_grown"))
  g_l_wrapped : mg ("_law_wrapped" : Str) = some (.ref (He.ga K "_law_wrapped"))
  g_l_spoilt : mg ("_law_spoilt" : Str) = some (.ref (He.ga K "_law_spoilt"))
  g_l_agrees : mg ("_law_agrees" : Str) = some (.ref (He.ga K "_law_agrees"))
  g_l_great_agrees : mg ("_law_great_agrees" : Str) = some (.ref (He.ga K "_law_great_agrees"))
  g_law : mg ("law" : Str) = some (.ref (He.ga K "law"))
  n_super : mg ("super" : Str) = none
  n_abs : mg ("abs" : Str) = none
  n_range : mg ("range" : Str) = none
  n_isinstance : mg ("isinstance" : Str) = none
  n_str : mg ("str" : Str) = none
  n_tuple : mg ("tuple" : Str) = none
  n_len : mg ("len" : Str) = none
  n_int : mg ("int" : Str) = none
  n_bool : mg ("bool" : Str) = none
  n_min : mg ("min" : Str) = none
  n_max : mg ("max" : Str) = none
  c_DataReader : Cls K (He.ga K "DataReader")
  a_DataReader_text : NoAttr K (He.ga K "DataReader") "text"
  a_DataReader_place : NoAttr K (He.ga K "DataReader") "place"
  k_DataReader : Mk K (He.ga K "DataReader") (He.ma K (He.ga K "DataReader") "__init__")
  m_sign : Meth K (He.ga K "DataReader") "sign" (He.ma K (He.ga K "DataReader") "sign")
  m_refuse : Meth K (He.ga K "DataReader") "refuse" (He.ma K (He.ga K "DataReader") "refuse")
  m_expect : Meth K (He.ga K "DataReader") "expect" (He.ma K (He.ga K "DataReader") "expect")
  m_read_word : Meth K (He.ga K "DataReader") "read_word" (He.ma K (He.ga K "DataReader") "read_word")
  m_read_whole : Meth K (He.ga K "DataReader") "read_whole" (He.ma K (He.ga K "DataReader") "read_whole")
  m_read_text : Meth K (He.ga K "DataReader") "read_text" (He.ma K (He.ga K "DataReader") "read_text")
  m_read_atom : Meth K (He.ga K "DataReader") "read_atom" (He.ma K (He.ga K "DataReader") "read_atom")
  m_read_nested : Meth K (He.ga K "DataReader") "read_nested" (He.ma K (He.ga K "DataReader") "read_nested")
  a_TooMany_what : NoAttr K (He.ga K "TooMany") "what"
  a_TooMany_limit : NoAttr K (He.ga K "TooMany") "limit"
  a_BadData_place : NoAttr K (He.ga K "BadData") "place"
  x_TooMany : PySem.W.exmOne K (.ref (He.ga K "TooMany")) (.ref (He.ga K "HoldError")) = some true
  x_BadData : PySem.W.exmOne K (.ref (He.ga K "BadData")) (.ref (He.ga K "HoldError")) = some true
  oT : OexC K (He.ga K "TooMany")
  oB : OexC K (He.ga K "BadData")
  sT : Q7.SupC K (He.ga K "TooMany")
  sB : Q7.SupC K (He.ga K "BadData")
  nd : Q7.NoDig K
  isT : Q7.IsX K (He.ga K "TooMany")
  isB : Q7.IsX K (He.ga K "BadData")
  kTT : PySem.W.kitOne K (.ref (He.ga K "TooMany")) (.ref (He.ga K "TooMany")) = some true
  kTB : PySem.W.kitOne K (.ref (He.ga K "TooMany")) (.ref (He.ga K "BadData")) = some false
  kBB : PySem.W.kitOne K (.ref (He.ga K "BadData")) (.ref (He.ga K "BadData")) = some true
  kBT : PySem.W.kitOne K (.ref (He.ga K "BadData")) (.ref (He.ga K "TooMany")) = some false
  iT : PySem.W.findIn K (.ref (He.ga K "TooMany")) "__init__" = some (some (.ref (He.fAd K ("TooMany", some "__init__"))))
  tyT : PySem.W.typeIn K (.ref (He.fAd K ("TooMany", some "__init__"))) = some (.type "function")
  iB : PySem.W.findIn K (.ref (He.ga K "BadData")) "__init__" = some (some (.ref (He.fAd K ("BadData", some "__init__"))))
  tyB : PySem.W.typeIn K (.ref (He.fAd K ("BadData", some "__init__"))) = some (.type "function")
  wn : KDct K w (He.ga K "WORDS") "n" (.ref (wAt "n" K))
  wt : KDct K w (He.ga K "WORDS") "t" (.ref (wAt "t" K))
  wf : KDct K w (He.ga K "WORDS") "f" (.ref (wAt "f" K))
  tn : ∀ H, SqT K H (wAt "n" K) [.str "none", .non]
  tt : ∀ H, SqT K H (wAt "t" K) [.str "true", .bl true]
  tf : ∀ H, SqT K H (wAt "f" K) [.str "false", .bl false]
theorem isiB_ok {K : PySem.W.Frag} {C : Addr} (h : isiB K C = true) : Q7.IsX K C := by
  obtain ⟨h1, h⟩ := He.ba h
  obtain ⟨h2, h⟩ := He.ba h
  obtain ⟨h3, h⟩ := He.ba h
  obtain ⟨h4, h5⟩ := He.ba h
  exact ⟨L2.xfB_ok h1, He.eqO_ok h2, He.eqO_ok h3, of_decide_eq_true h4, of_decide_eq_true h5⟩
theorem tupAt_ok {K : PySem.W.Frag} {a : Addr} {vs : List He.Dv} (h : tupAt K a vs = true) (H : Hp) : SqT K H a (vs.map (He.Dv.v K)) := by
  unfold tupAt at h
  cases q : K.lookup a with
  | none =>
    rw [q] at h
    cases h
  | some o =>
    obtain ⟨oc, od, dt, osl⟩ := o
    rw [q] at h
    cases oc with
    | type c =>
      cases dt with
      | seq its n =>
        obtain ⟨h1, h2⟩ := He.ba (show (decide (c = "tuple") && (decide (its.size ≤ sizeLine) && He.relAll (vs.map (He.Dv.v K)) its.toList)) = true from h)
        obtain ⟨h3, h4⟩ := He.ba h2
        exact .inr ⟨_, its, n, q, congrArg Value.type (of_decide_eq_true h1), rfl, of_decide_eq_true h3, He.relAll_ok h4⟩
      | _ => cases h
    | _ => cases dt <;> cases h
theorem txt_of {P : Program} {w : World} {K : PySem.W.Frag} {h : Heap} {mg : Str → Option Value} (X : K.In h) (G : h.Ns mainGlobals mg) (c0 : He.SaysQ fa fn fc ts ex file w K) : Txt P w K mg := by
  have c := He.SaysQ.d c0
  have m := He.SaysQ.more c0
  obtain ⟨es, n, D⟩ := He.SaysT.tab (He.SaysQ.t c0) 0 (t := ((fun K => He.ga K "WORDS"), ["n", "t", "f"])) rfl
  obtain ⟨m1, m⟩ := He.ba m
  obtain ⟨m2, m⟩ := He.ba m
  obtain ⟨m3, m⟩ := He.ba m
  obtain ⟨m4, m⟩ := He.ba m
  obtain ⟨m5, m⟩ := He.ba m
  obtain ⟨m6, m⟩ := He.ba m
  obtain ⟨m7, m⟩ := He.ba m
  obtain ⟨m8, m⟩ := He.ba m
  obtain ⟨m9, m⟩ := He.ba m
  obtain ⟨m10, m⟩ := He.ba m
  obtain ⟨m11, m⟩ := He.ba m
  obtain ⟨m12, m⟩ := He.ba m
  obtain ⟨m13, m14⟩ := He.ba m
  obtain ⟨k1, k⟩ := He.ba m8
  obtain ⟨k2, k⟩ := He.ba k
  obtain ⟨k3, k4⟩ := He.ba k
  obtain ⟨i1, i2⟩ := He.ba m9
  obtain ⟨i3, i4⟩ := He.ba m10
  have dct : ∀ (k : Str) (p : PySem.W.Frag → Addr), (k, He.Dv.adr p) ∈ ([("n", .adr (wAt "n")), ("t", .adr (wAt "t")), ("f", .adr (wAt "f"))] : List (Str × He.Dv)) → KDct K w (He.ga K "WORDS") k (.ref (p K)) := fun k p hm => by
    obtain ⟨u, h1, h2⟩ := He.valsB_ok m11 hm
    exact ⟨es, n, u, D.at_, D.lit, h1, h2⟩
  exact {
    g_HoldError := He.glo_ok X G (c.fact 0 (f := .glo "HoldError") rfl)
    g_TooMany := He.glo_ok X G (c.fact 1 (f := .glo "TooMany") rfl)
    g_BadData := He.glo_ok X G (c.fact 2 (f := .glo "BadData") rfl)
    g_DataReader := He.glo_ok X G (c.fact 3 (f := .glo "DataReader") rfl)
    g_WORDS := He.glo_ok X G (c.fact 4 (f := .glo "WORDS") rfl)
    i_DATA_FIGURES := He.int_ok X G (c.fact 5 (f := .int "DATA_FIGURES" 1500) rfl)
    i_DATA_DEPTH := He.int_ok X G (c.fact 6 (f := .int "DATA_DEPTH" 24) rfl)
    s_DIGITS := He.str_ok X G (c.fact 7 (f := .str "DIGITS" "0123456789") rfl)
    g_read_data := He.glo_ok X G (c.fact 8 (f := .glo "read_data") rfl)
    g_l_mix := He.glo_ok X G (c.fact 9 (f := .glo "_law_mix") rfl)
    g_l_jar := He.glo_ok X G (c.fact 10 (f := .glo "_law_jar") rfl)
    g_l_draw := He.glo_ok X G (c.fact 11 (f := .glo "_law_draw") rfl)
    g_l_between := He.glo_ok X G (c.fact 12 (f := .glo "_law_between") rfl)
    g_l_pick := He.glo_ok X G (c.fact 13 (f := .glo "_law_pick") rfl)
    g_l_atom_text := He.glo_ok X G (c.fact 14 (f := .glo "_law_atom_text") rfl)
    g_l_data_text := He.glo_ok X G (c.fact 15 (f := .glo "_law_data_text") rfl)
    g_l_begun_value := He.glo_ok X G (c.fact 16 (f := .glo "_law_begun_value") rfl)
    g_l_in_text := He.glo_ok X G (c.fact 17 (f := .glo "_law_in_text") rfl)
    g_l_in_number := He.glo_ok X G (c.fact 18 (f := .glo "_law_in_number") rfl)
    g_l_behind_value := He.glo_ok X G (c.fact 19 (f := .glo "_law_behind_value") rfl)
    g_l_read := He.glo_ok X G (c.fact 20 (f := .glo "_law_read") rfl)
    g_l_letters := He.glo_ok X G (c.fact 21 (f := .glo "_law_letters") rfl)
    g_l_atom := He.glo_ok X G (c.fact 22 (f := .glo "_law_atom") rfl)
    g_l_grown := He.glo_ok X G (c.fact 23 (f := .glo "_law_grown") rfl)
    g_l_wrapped := He.glo_ok X G (c.fact 24 (f := .glo "_law_wrapped") rfl)
    g_l_spoilt := He.glo_ok X G (c.fact 25 (f := .glo "_law_spoilt") rfl)
    g_l_agrees := He.glo_ok X G (c.fact 26 (f := .glo "_law_agrees") rfl)
    g_l_great_agrees := He.glo_ok X G (c.fact 27 (f := .glo "_law_great_agrees") rfl)
    g_law := He.glo_ok X G (c.fact 28 (f := .glo "law") rfl)
    n_super := He.free_ok X G (c.fact 29 (f := .free "super") rfl)
    n_abs := He.free_ok X G (c.fact 30 (f := .free "abs") rfl)
    n_range := He.free_ok X G (c.fact 31 (f := .free "range") rfl)
    n_isinstance := He.free_ok X G (c.fact 32 (f := .free "isinstance") rfl)
    n_str := He.free_ok X G (c.fact 33 (f := .free "str") rfl)
    n_tuple := He.free_ok X G (c.fact 34 (f := .free "tuple") rfl)
    n_len := He.free_ok X G (c.fact 35 (f := .free "len") rfl)
    n_int := He.free_ok X G (c.fact 36 (f := .free "int") rfl)
    n_bool := He.free_ok X G (c.fact 37 (f := .free "bool") rfl)
    n_min := He.free_ok X G (c.fact 38 (f := .free "min") rfl)
    n_max := He.free_ok X G (c.fact 39 (f := .free "max") rfl)
    c_DataReader := He.cls_ok (c.fact 40 (f := .cls "DataReader") rfl)
    a_DataReader_text := He.noat_ok (c.fact 41 (f := .noat "DataReader" "text") rfl)
    a_DataReader_place := He.noat_ok (c.fact 42 (f := .noat "DataReader" "place") rfl)
    k_DataReader := He.mkr_ok (c.fact 43 (f := .mkr "DataReader") rfl)
    m_sign := He.meth_ok (c.fact 44 (f := .meth "DataReader" "sign") rfl)
    m_refuse := He.meth_ok (c.fact 45 (f := .meth "DataReader" "refuse") rfl)
    m_expect := He.meth_ok (c.fact 46 (f := .meth "DataReader" "expect") rfl)
    m_read_word := He.meth_ok (c.fact 47 (f := .meth "DataReader" "read_word") rfl)
    m_read_whole := He.meth_ok (c.fact 48 (f := .meth "DataReader" "read_whole") rfl)
    m_read_text := He.meth_ok (c.fact 49 (f := .meth "DataReader" "read_text") rfl)
    m_read_atom := He.meth_ok (c.fact 50 (f := .meth "DataReader" "read_atom") rfl)
    m_read_nested := He.meth_ok (c.fact 51 (f := .meth "DataReader" "read_nested") rfl)
    a_TooMany_what := He.noat_ok (c.fact 52 (f := .noat "TooMany" "what") rfl)
    a_TooMany_limit := He.noat_ok (c.fact 53 (f := .noat "TooMany" "limit") rfl)
    a_BadData_place := He.noat_ok (c.fact 54 (f := .noat "BadData" "place") rfl)
    x_TooMany := He.exm_ok (c.fact 55 (f := .exm "TooMany" "HoldError" true) rfl)
    x_BadData := He.exm_ok (c.fact 56 (f := .exm "BadData" "HoldError" true) rfl)
    oT := He.excB_ok m1
    oB := He.excB_ok m2
    sT := He.supB_ok m3
    sB := He.supB_ok m4
    nd := He.digB_ok m5
    isT := isiB_ok m6
    isB := isiB_ok m7
    kTT := of_decide_eq_true k1
    kTB := of_decide_eq_true k2
    kBB := of_decide_eq_true k3
    kBT := of_decide_eq_true k4
    iT := He.eqO_ok i1
    tyT := of_decide_eq_true i2
    iB := He.eqO_ok i3
    tyB := of_decide_eq_true i4
    wn := dct _ _ (by simp)
    wt := dct _ _ (by simp)
    wf := dct _ _ (by simp)
    tn := tupAt_ok m12
    tt := tupAt_ok m13
    tf := tupAt_ok m14 }
end K80

set_option Elab.async false
set_option linter.all false
set_option maxRecDepth 100000
set_option maxHeartbeats 4000000
/-! M: plain data, its text, the reader of signs as plain functions. -/
namespace DD
open PySem L2
abbrev S := SX.S
inductive D where
  | non | bl (b : Bool) | int (i : Int) | str (s : List Nat) | tup (l : List D)
mutual
/-- v stands for the data d in the heap H -/
def DAt (H : Hp) : D → V → Prop
  | .non, v => v = .non
  | .bl b, v => v = .bl b
  | .int i, v => v = .int i
  | .str s, v => v = .str (S s)
  | .tup l, v => ∃ a xs, v = .ref a ∧ H a = some (.tup xs) ∧ DAts H l xs
def DAts (H : Hp) : List D → List V → Prop
  | [], xs => xs = []
  | d :: l, xs => ∃ v r, xs = v :: r ∧ DAt H d v ∧ DAts H l r
end
mutual
theorem DAt.mono {H H' : Hp} (h : ∀ a xs, H a = some (.tup xs) → H' a = some (.tup xs)) : ∀ {d : D} {v : V}, DAt H d v → DAt H' d v
  | .non, v, x => by unfold DAt at *; exact x
  | .bl b, v, x => by unfold DAt at *; exact x
  | .int i, v, x => by unfold DAt at *; exact x
  | .str s, v, x => by unfold DAt at *; exact x
  | .tup l, v, x => by
    unfold DAt at *
    obtain ⟨a, xs, e, ha, hl⟩ := x
    exact ⟨a, xs, e, h a xs ha, DAts.mono h hl⟩
theorem DAts.mono {H H' : Hp} (h : ∀ a xs, H a = some (.tup xs) → H' a = some (.tup xs)) : ∀ {l : List D} {xs : List V}, DAts H l xs → DAts H' l xs
  | [], xs, x => by unfold DAts at *; exact x
  | d :: l, xs, x => by
    unfold DAts at *
    obtain ⟨v, r, e, hd, hl⟩ := x
    exact ⟨v, r, e, DAt.mono h hd, DAts.mono h hl⟩
end
theorem DAts.length {H : Hp} : ∀ {l : List D} {xs : List V}, DAts H l xs → xs.length = l.length
  | [], xs, x => by unfold DAts at x; rw [x] <;> rfl
  | d :: l, xs, x => by
    unfold DAts at x
    obtain ⟨v, r, e, hd, hl⟩ := x
    rw [e, List.length_cons, List.length_cons, DAts.length hl]
theorem DAts.snoc {H : Hp} : ∀ {l : List D} {xs : List V} {d : D} {v : V}, DAts H l xs → DAt H d v → DAts H (l ++ [d]) (xs ++ [v])
  | [], xs, d, v, x, y => by
    unfold DAts at x
    subst x
    show DAts H [d] [v]
    unfold DAts
    exact ⟨v, [], rfl, y, by unfold DAts; rfl⟩
  | d0 :: l, xs, d, v, x, y => by
    unfold DAts at x
    obtain ⟨v0, r, e, hd, hl⟩ := x
    subst e
    show DAts H (d0 :: (l ++ [d])) (v0 :: (r ++ [v]))
    unfold DAts
    exact ⟨v0, r ++ [v], rfl, hd, DAts.snoc hl y⟩
theorem DAts.nil {H : Hp} : DAts H [] [] := by unfold DAts; rfl
theorem DAts.get {H : Hp} : ∀ {l : List D} {xs : List V} {i : Nat} {v : V}, DAts H l xs → xs[i]? = some v → ∃ d, l[i]? = some d ∧ DAt H d v
  | [], xs, i, v, x, e => by
    unfold DAts at x
    subst x
    simp at e
  | d0 :: l, xs, 0, v, x, e => by
    unfold DAts at x
    obtain ⟨v0, r, e0, hd, hl⟩ := x
    subst e0
    simp at e
    subst e
    exact ⟨d0, rfl, hd⟩
  | d0 :: l, xs, i + 1, v, x, e => by
    unfold DAts at x
    obtain ⟨v0, r, e0, hd, hl⟩ := x
    subst e0
    simp at e
    obtain ⟨d, h1, h2⟩ := DAts.get hl e
    exact ⟨d, by simpa using h1, h2⟩

/-! ### texts -/
def esc1 (c : Nat) : List Nat := if c = 10 then [92, 110] else if c = 92 ∨ c = 34 then [92, c] else [c]
def esc (l : List Nat) : List Nat := l.flatMap esc1
def numL (i : Int) : List Nat := (toString i).toList.map Char.toNat
def wNone : List Nat := [110, 111, 110, 101]
def wTrue : List Nat := [116, 114, 117, 101]
def wFalse : List Nat := [102, 97, 108, 115, 101]
def sepL : List (List Nat) → List Nat
  | [] => []
  | [x] => x
  | x :: y :: r => x ++ 32 :: sepL (y :: r)
mutual
def txt : D → List Nat
  | .non => wNone
  | .bl true => wTrue
  | .bl false => wFalse
  | .int i => numL i
  | .str s => 34 :: (esc s ++ [34])
  | .tup l => 40 :: (sepL (txts l) ++ [41])
def txts : List D → List (List Nat)
  | [] => []
  | d :: r => txt d :: txts r
end

/-! ### the reader -/
/-- what a reader of signs gives: a thing and the signs left, or the signs left at the sign that cannot go on -/
inductive Rs (α : Type) where
  | ok (a : α) (l : List Nat)
  | bad (l : List Nat)
def isDig (c : Nat) : Bool := decide (48 ≤ c) && decide (c ≤ 57)
def wordL : List Nat → List Nat → Rs Unit
  | [], l => .ok () l
  | c :: w, d :: l => if d = c then wordL w l else .bad (d :: l)
  | _ :: _, [] => .bad []
def wholeAt (down : Bool) (l l1 : List Nat) : Rs D := match l1 with
  | [] => .bad []
  | c :: r => if isDig c = false ∨ (down = true ∧ c = 48) then .bad l1
    else if c = 48 ∧ (l1.takeWhile isDig).length > 1 then .bad r
    else if (l1.takeWhile isDig).length > 1500 then .bad l
    else .ok (.int (if down then -((NumText.digitsVal (l1.takeWhile isDig) : Nat) : Int) else ((NumText.digitsVal (l1.takeWhile isDig) : Nat) : Int))) (l1.dropWhile isDig)
def wholeL (l : List Nat) : Rs D := match l with
  | [] => wholeAt false l l
  | c :: r => if c = 45 then wholeAt true l r else wholeAt false l l
/-- a text behind its first quote; acc: the signs so far -/
def textL : List Nat → List Nat → Rs (List Nat)
  | [], _ => .bad []
  | c :: r, acc => if c = 34 then .ok acc r
    else if ¬ (32 ≤ c ∧ c ≤ 126) then .bad (c :: r)
    else if c = 92 then (match r with
      | [] => .bad []
      | e :: r2 => if e = 92 ∨ e = 34 ∨ e = 110 then textL r2 (acc ++ [if e = 110 then 10 else e]) else .bad (e :: r2))
    else textL r (acc ++ [c])
def Rs.map {α β : Type} (f : α → β) : Rs α → Rs β
  | .ok a l => .ok (f a) l
  | .bad l => .bad l
def atomL (l : List Nat) : Rs D := match l with
  | [] => wholeL l
  | c :: r => if c = 34 then (textL r []).map .str
    else if c = 110 then (wordL wNone l).map fun _ => .non
    else if c = 116 then (wordL wTrue l).map fun _ => .bl true
    else if c = 102 then (wordL wFalse l).map fun _ => .bl false
    else wholeL l
/-- the parts of a tuple behind its parenthesis, by a reader of parts -/
def partsL (rd : List Nat → Rs D) : Nat → List Nat → List D → Rs D
  | 0, l, _ => .bad l
  | f + 1, l, acc => if l.head? = some 41 then .ok (.tup acc) l.tail
    else if acc ≠ [] ∧ l.head? ≠ some 32 then .bad l
    else match rd (if acc = [] then l else l.tail) with
      | .ok d l2 => partsL rd f l2 (acc ++ [d])
      | .bad x => .bad x
def nestL : Nat → List Nat → Rs D
  | 0, l => if l.head? = some 40 then .bad l else atomL l
  | k + 1, l => if l.head? = some 40 then partsL (nestL k) (l.length + 1) l.tail [] else atomL l
def readL (l : List Nat) : Rs D := match nestL 24 l with
  | .ok d [] => .ok d []
  | .ok _ (c :: r) => .bad (c :: r)
  | .bad x => .bad x
end DD

set_option Elab.async false
set_option linter.all false
set_option maxRecDepth 100000
set_option maxHeartbeats 4000000
/-! W1: the errors' __init__, made and raised; DataReader's small methods. -/
namespace K80
open PySem PySem.Spec PyProof.Rows L2 DD
abbrev PG : Program := R.prog
abbrev CT (K : PySem.W.Frag) : Addr := He.ga K "TooMany"
abbrev CB (K : PySem.W.Frag) : Addr := He.ga K "BadData"
abbrev CR (K : PySem.W.Frag) : Addr := He.ga K "DataReader"
abbrev FnG (K : PySem.W.Frag) (x : Str) (st : Stmt) (fd : FuncData) : Prop := FunD K x x (defArgs st) (defBody st) (defScope st) [] [] (He.ga K x) fd
abbrev FnM (K : PySem.W.Frag) (m q : Str) (st : Stmt) (fd : FuncData) : Prop := FunD K m q (defArgs st) (defBody st) (defScope st) [] [] (He.ma K (He.ga K "DataReader") m) fd
/-- an error of the class C, its fields fs, behind H -/
def Raised (C : Addr) (fs : List (Str × V)) (H : Hp) (Q : XK) : Prop := ∀ d H', Same H H' → H d = none → H' d = some (.xd fs) → Q (.ref C) (some d) H'
section
variable {w : World} {K : PySem.W.Frag} {mg : Str → Option Value} {base : Heap}
/-! ### TooMany, BadData -/
def spBadI (K : PySem.W.Frag) : Sp := fun vs H Q _ => ∃ (a : Addr) (p : Nat), vs = [.ref a, .int p] ∧ H a = some (exo a (CB K) none) ∧ (p : Int).natAbs.log2 < 1920 ∧
  ∀ dx, H dx = none → dx ≠ a → Q .non (upd (upd H dx (exd dx [("place", .int p)])) a (exo a (CB K) (some dx)))
def spManyI (K : PySem.W.Frag) : Sp := fun vs H Q _ => ∃ (a : Addr) (z : Str) (n : Int), vs = [.ref a, .str z, .int n] ∧ H a = some (exo a (CT K) none) ∧ z.length ≤ 1000 ∧ n.natAbs.log2 < 1920 ∧
  ∀ dx, H dx = none → dx ≠ a → Q .non (upd (upd (upd H dx (exd dx [("what", .str z)])) a (exo a (CT K) (some dx))) dx (exd dx [("limit", .int n), ("what", .str z)]))
theorem scBad : Q7.SupScope ["self", "place"] ["self", "place"] (defScope sBadData) := ⟨rfl, rfl, rfl, by decide +kernel, rfl, by decide +kernel, by decide +kernel, by decide +kernel, by decide +kernel, by decide +kernel⟩
theorem scMany : Q7.SupScope ["self", "what", "limit"] ["self", "what", "limit"] (defScope sTooMany) := ⟨rfl, rfl, rfl, by decide +kernel, rfl, by decide +kernel, by decide +kernel, by decide +kernel, by decide +kernel, by decide +kernel⟩
theorem str_app_len (a b : Str) : (a ++ b).length = a.length + b.length := by
  show (a.cps ++ b.cps).size = _
  rw [Array.size_append]
  rfl
theorem num_text_len {n : Int} (h : n.natAbs.log2 < 1920) : (Str.ofString (toString n)).length ≤ 2000 := by
  have e := PySem.int_text_length_le (k := 1920) (by decide) h
  rw [PySem.ofString_length]
  omega
theorem small_text (n : Int) (h : n.natAbs.log2 < 1920) : (Str.ofString (toString n)).length ≤ sizeLine := PySem.int_text_fits h
theorem ok_badI (T : Txt PG w K mg) (c : He.SaysQ fa fn fc ts ex file w K) : ∃ fd, FnOk PG w K mg base CX0 1 (He.fAd K ("BadData", some "__init__")) fd ["self", "place"] (spBadI K) ∧ Binds K fd ["self", "place"] [] := by
  obtain ⟨e1, e2⟩ := He.SaysQ.defc c 1 (d := ⟨("BadData", some "__init__"), "__init__", "BadData.__init__", defArgs sBadData, defBody sBadData, defScope sBadData, "BadData"⟩) rfl
  obtain ⟨oc, od, kV, doc, pm, ct, an, osl, lk, hcd, SF, kp⟩ := He.DefC.supF (P := PG) e1 e2 (by decide +kernel)
  refine ⟨_, Q7.fn_sup (k := 0) (N := ["self", "place"]) lk hcd scBad T.oB T.sB SF T.n_super rfl rfl (by decide +kernel) (fun _ => rfl) (fun _ => ⟨_, rfl⟩) (fun _ => rfl) (fun vs H Q E h => ?_) (fun A outer s H vs Q E hr h => ?_), .all fun us hl => ?_⟩
  · obtain ⟨a, p, rfl, _⟩ := h
    rfl
  · obtain ⟨a, p, rfl, ha, hp, k⟩ := h
    refine ⟨a, _, _, pe_joined (.cons pe_str (.cons (pe_fmt (pv 1)) .nil)), pss_one (ps_ost (pv 0) (pv 1)), rfl, ha, ?_⟩
    have hl : (("data at " : Str) ++ Str.ofString (toString (p : Int))).length ≤ sizeLine := by
      rw [str_app_len]
      have h1 := num_text_len hp
      have h2 : (("data at " : Str)).length = 8 := by decide +kernel
      rw [h2, sizeLine_eq]
      omega
    refine ⟨_, rfl, by decide +kernel, _, rfl, .inr ⟨_, rfl, hp, _, rfl, ?_, ha, ?_⟩⟩
    · exact hl
    · refine ⟨_, rfl, _, rfl, a, CB K, rfl, T.oB, T.a_BadData_place, .inl ⟨ha, fun dx n ne => k dx n ne⟩⟩
  · match us, hl with
    | [_, _], _ => rfl
theorem ok_manyI (T : Txt PG w K mg) (c : He.SaysQ fa fn fc ts ex file w K) : ∃ fd, FnOk PG w K mg base CX0 1 (He.fAd K ("TooMany", some "__init__")) fd ["self", "what", "limit"] (spManyI K) ∧ Binds K fd ["self", "what", "limit"] [] := by
  obtain ⟨e1, e2⟩ := He.SaysQ.defc c 0 (d := ⟨("TooMany", some "__init__"), "__init__", "TooMany.__init__", defArgs sTooMany, defBody sTooMany, defScope sTooMany, "TooMany"⟩) rfl
  obtain ⟨oc, od, kV, doc, pm, ct, an, osl, lk, hcd, SF, kp⟩ := He.DefC.supF (P := PG) e1 e2 (by decide +kernel)
  refine ⟨_, Q7.fn_sup (k := 0) (N := ["self", "what", "limit"]) lk hcd scMany T.oT T.sT SF T.n_super rfl rfl (by decide +kernel) (fun _ => rfl) (fun _ => ⟨_, rfl⟩) (fun _ => rfl) (fun vs H Q E h => ?_) (fun A outer s H vs Q E hr h => ?_), .all fun us hl => ?_⟩
  · obtain ⟨a, z, n, rfl, _⟩ := h
    rfl
  · obtain ⟨a, z, n, rfl, ha, hz, hn, k⟩ := h
    refine ⟨a, _, _, pe_joined (.cons pe_str (.cons (pe_fmt (pv 2)) (.cons pe_str (.cons (pe_fmt (pv 1)) .nil)))), pss_cons (ps_ost (pv 0) (pv 1)) (pss_one (ps_ost (pv 0) (pv 2))), rfl, ha, ?_⟩
    have h1 := num_text_len hn
    have h2 : (("more than " : Str)).length = 10 := by decide +kernel
    have h3 : ((" " : Str)).length = 1 := by decide +kernel
    have h0 : (Str.empty).length = 0 := rfl
    refine ⟨_, rfl, by rw [str_app_len, h0, h2, sizeLine_eq]; omega, _, rfl, .inr ⟨_, rfl, hn, _, rfl, by rw [str_app_len, str_app_len, h0, h2, sizeLine_eq]; omega, ?_⟩⟩
    refine ⟨_, rfl, by rw [str_app_len, str_app_len, str_app_len, h0, h2, h3, sizeLine_eq]; omega, _, rfl, .inl ⟨_, rfl, by rw [sizeLine_eq]; omega, _, rfl, by rw [str_app_len, str_app_len, str_app_len, str_app_len, h0, h2, h3, sizeLine_eq]; omega, ha, ?_⟩⟩
    refine ⟨_, rfl, _, rfl, a, CT K, rfl, T.oT, T.a_TooMany_what, .inl ⟨ha, fun dx n' ne => ?_⟩⟩
    refine ⟨_, rfl, _, rfl, a, CT K, rfl, T.oT, T.a_TooMany_limit, .inr ⟨dx, _, upd_same, by rw [upd_ne ne, upd_same], by show 1 ≤ 900; decide, ?_⟩⟩
    exact k dx n' ne
  · match us, hl with
    | [_, _, _], _ => rfl
/-! ### raised -/
theorem raise_bad {a : Addr} {p : Nat} {H1 : Hp} {Q : XK} (hp : (p : Int).natAbs.log2 < 1920) (n : H1 a = none) (h : Raised (CB K) [("place", .int p)] H1 Q) :
    spBadI K [.ref a, .int p] (upd H1 a (exo a (CB K) none)) (fun v H2 => v = .non ∧ ∃ (d : Addr) (fs : List (Str × V)), H2 a = some (exo a (CB K) (some d)) ∧ H2 d = some (exd d fs) ∧ H1 d = none ∧ Q (.ref (CB K)) (some d) (upd (del H2 a) d (.xd fs))) (fun _ _ _ => False) := by
  refine ⟨a, p, rfl, upd_same, hp, fun dx nd ne => ⟨rfl, dx, _, upd_same, by rw [upd_ne ne, upd_same], ?_, ?_⟩⟩
  · rw [upd_ne ne] at nd
    exact nd
  · rw [upd_ne ne] at nd
    refine h dx _ (fun b o e => ?_) nd upd_same
    rw [upd_ne (ne_of_none e nd), del_ne (ne_of_none e n), upd_ne (ne_of_none e n), upd_ne (ne_of_none e nd), upd_ne (ne_of_none e n)]
    exact e
theorem raise_many {a : Addr} {z : Str} {i : Int} {H1 : Hp} {Q : XK} (hz : z.length ≤ 1000) (hi : i.natAbs.log2 < 1920) (n : H1 a = none) (h : Raised (CT K) [("limit", .int i), ("what", .str z)] H1 Q) :
    spManyI K [.ref a, .str z, .int i] (upd H1 a (exo a (CT K) none)) (fun v H2 => v = .non ∧ ∃ (d : Addr) (fs : List (Str × V)), H2 a = some (exo a (CT K) (some d)) ∧ H2 d = some (exd d fs) ∧ H1 d = none ∧ Q (.ref (CT K)) (some d) (upd (del H2 a) d (.xd fs))) (fun _ _ _ => False) := by
  refine ⟨a, z, i, rfl, upd_same, hz, hi, fun dx nd ne => ⟨rfl, dx, _, by rw [upd_ne (Ne.symm ne), upd_same], upd_same, ?_, ?_⟩⟩
  · rw [upd_ne ne] at nd
    exact nd
  · rw [upd_ne ne] at nd
    refine h dx _ (fun b o e => ?_) nd upd_same
    rw [upd_ne (ne_of_none e nd), del_ne (ne_of_none e n), upd_ne (ne_of_none e nd), upd_ne (ne_of_none e n), upd_ne (ne_of_none e nd), upd_ne (ne_of_none e n)]
    exact e
end
end K80

set_option Elab.async false
set_option linter.all false
set_option maxRecDepth 100000
set_option maxHeartbeats 4000000
/-! W2: DataReader's methods sign, refuse, expect, __init__, read_word. -/
namespace K80
open PySem PySem.Spec PyProof.Rows L2 DD
/-- the largest text that is read -/
abbrev MX : Nat := 16000000
theorem mx_line : MX ≤ sizeLine := by rw [sizeLine_eq]; decide
theorem mx_log (p : Nat) (h : p ≤ MX) : (p : Int).natAbs.log2 < 1920 := by
  rw [Int.natAbs_natCast]
  by_cases h0 : p = 0
  · subst h0; decide
  · refine (Nat.log2_lt h0).mpr (Nat.lt_of_le_of_lt h ?_)
    exact Nat.lt_of_lt_of_le (show MX < 2 ^ 24 by decide) (Nat.pow_le_pow_right (show 0 < 2 by decide) (show 24 ≤ 1920 by decide))
def flds (z : Str) (p : Nat) : List (Str × V) := putF "place" (.int p) (putF "text" (.str z) [])
theorem kc : ¬ (("text" : Str) = "place") := by decide +kernel
theorem flds_text (z : Str) (p : Nat) : (flds z p).lookup ("text" : Str) = some (.str z) := by
  unfold flds
  rw [lookup_putF, if_neg kc, lookup_putF, if_pos rfl]
theorem flds_place (z : Str) (p : Nat) : (flds z p).lookup ("place" : Str) = some (.int p) := by
  unfold flds
  rw [lookup_putF, if_pos rfl]
theorem flds_no (z : Str) (p : Nat) {m : Str} (h1 : ¬ m = "place") (h2 : ¬ m = "text") : (flds z p).lookup m = none := by
  unfold flds
  rw [lookup_putF, if_neg h1, lookup_putF, if_neg h2]
  all_goals rfl
theorem flds_eq (z : Str) (p : Nat) : flds z p = ([("text", .str z), ("place", .int p)] : List (Str × V)) := by
  show (if ("text" : Str) = "place" then [(("text" : Str), V.int p)] else (("text" : Str), V.str z) :: putF "place" (V.int p) []) = ([("text", .str z), ("place", .int p)] : List (Str × V))
  rw [if_neg kc]
  all_goals rfl
theorem flds_put (z : Str) (p q : Nat) : putF "place" (.int q) (flds z p) = flds z q := by
  rw [flds_eq, flds_eq]
  show (if ("text" : Str) = "place" then _ else (("text" : Str), V.str z) :: (if ("place" : Str) = "place" then [(("place" : Str), V.int q)] else _)) = ([("text", .str z), ("place", .int q)] : List (Str × V))
  rw [if_neg kc, if_pos rfl]
theorem flds_len (z : Str) (p : Nat) : (flds z p).length < 1000 := by
  rw [flds_eq]
  show 2 < 1000
  decide
/-- a reader of the text L at a, the signs l are left -/
structure RdAt (C : Addr) (H : Hp) (a : Addr) (L l : List Nat) : Prop where
  ob : ∃ dx pre, L = pre ++ l ∧ H a = some (.ins C dx (flds (S L) pre.length))
/-- all but a stands -/
def KeepB (H H' : Hp) (a : Addr) : Prop := ∀ b o, H b = some o → b ≠ a → H' b = some o
theorem KeepB.refl {H : Hp} {a : Addr} : KeepB H H a := fun _ _ e _ => e
theorem KeepB.trans {H H1 H2 : Hp} {a : Addr} (h : KeepB H H1 a) (k : KeepB H1 H2 a) : KeepB H H2 a := fun b o e n => k b o (h b o e n) n
theorem KeepB.same {H H' : Hp} {a : Addr} (h : Same H H') : KeepB H H' a := fun b o e _ => h b o e
theorem KeepB.upd {H : Hp} {a : Addr} {o : HO} : KeepB H (upd H a o) a := fun b u e n => by rw [upd_ne n]; exact e
theorem KeepB.free {H H' : Hp} {a p : Addr} {o : HO} (h : KeepB H H' a) (ha : H' a = some o) (hp : H' p = none) : H p = none := by
  cases q : H p with
  | none => rfl
  | some u =>
    by_cases e : p = a
    · rw [e, ha] at hp
      cases hp
    · rw [h p u q e] at hp
      cases hp
theorem DAt.keep {C : Addr} {L l : List Nat} {H H' : Hp} {a : Addr} {d : D} {v : V} (r : RdAt C H a L l) (h : KeepB H H' a) (x : DAt H d v) : DAt H' d v := DAt.mono (fun b xs e => h b _ e fun z => by
  obtain ⟨dx, pre, _, q⟩ := r.ob
  rw [z, q] at e
  cases e) x
theorem DAts.keep {C : Addr} {L l : List Nat} {H H' : Hp} {a : Addr} {d : List D} {v : List V} (r : RdAt C H a L l) (h : KeepB H H' a) (x : DAts H d v) : DAts H' d v := DAts.mono (fun b xs e => h b _ e fun z => by
  obtain ⟨dx, pre, _, q⟩ := r.ob
  rw [z, q] at e
  cases e) x
/-- BadData at the sign with which l begins -/
def Bad (K : PySem.W.Frag) (a : Addr) (L l : List Nat) (H : Hp) (Q : XK) : Prop := ∀ d H', KeepB H H' a → H' d = some (.xd [("place", .int ((L.length - l.length : Nat) : Int))]) → Q (.ref (CB K)) (some d) H'
theorem Bad.up {K : PySem.W.Frag} {a : Addr} {L l : List Nat} {H H' : Hp} {Q : XK} (h : Bad K a L l H Q) (k : KeepB H H' a) : Bad K a L l H' Q := fun d H2 k2 e => h d H2 (k.trans k2) e
theorem Bad.raised {K : PySem.W.Frag} {a : Addr} {pre l : List Nat} {H : Hp} {Q : XK} (h : Bad K a (pre ++ l) l H Q) : Raised (CB K) [("place", .int (pre.length : Nat))] H Q := fun d H' s n e => by
  have e2 : (pre ++ l).length - l.length = pre.length := by rw [List.length_append]; omega
  exact h d H' (KeepB.same s) (by rw [e2]; exact e)
theorem RdAt.up {C : Addr} {H H' : Hp} {a : Addr} {L l : List Nat} (r : RdAt C H a L l) (s : Same H H') : RdAt C H' a L l := by
  obtain ⟨dx, pre, e, q⟩ := r.ob
  exact ⟨dx, pre, e, s _ _ q⟩
theorem cut_one (pre l : List Nat) : cutS (S (pre ++ l)) (some (pre.length : Int)) (some ((pre.length : Int) + 1)) = S (l.take 1) := by
  unfold cutS
  have hl : (S (pre ++ l)).length = pre.length + l.length := by rw [SX.S_len, List.length_append]
  have e1 : HT.sIx (S (pre ++ l)).length 0 (some (pre.length : Int)) = pre.length := by
    rw [HT.sIx_nat, hl]
    omega
  have e2 : HT.sIx (S (pre ++ l)).length (S (pre ++ l)).length (some ((pre.length : Int) + 1)) = min (pre.length + 1) (pre.length + l.length) := by
    rw [show (pre.length : Int) + 1 = ((pre.length + 1 : Nat) : Int) by omega, HT.sIx_nat, hl]
  rw [e1, e2]
  show S (((pre ++ l).drop pre.length).take _) = _
  rw [List.drop_left]
  congr 1
  cases l with
  | nil => simp
  | cons c r =>
    have : min (pre.length + 1) (pre.length + (c :: r).length) - pre.length = 1 := by rw [List.length_cons]; omega
    rw [this]
section
variable {w : World} {K : PySem.W.Frag} {mg : Str → Option Value} {base : Heap}
/-! ### __init__, sign -/
def spInit (K : PySem.W.Frag) : Sp := fun vs H Q _ => ∃ (p dx : Addr) (L : List Nat), vs = [.ref p, .str (S L)] ∧ H p = some (.ins (CR K) dx []) ∧ ∀ H', KeepB H H' p → RdAt (CR K) H' p L L → Q .non H'
theorem scI : FnScope ["self", "text"] ["self", "text"] (defScope sInit) := ⟨rfl, rfl, rfl, by decide +kernel, rfl, by decide +kernel, by decide +kernel⟩
theorem ok_init {fd : FuncData} (F : FnM K "__init__" "DataReader.__init__" sInit fd) (T : Txt PG w K mg) : FnOk PG w K mg base CX0 1 (He.ma K (CR K) "__init__") fd ["self", "text"] (spInit K) := by
  refine F.ok scI (fun vs H Q E h => ?_) (fun cdv A outer s H vs Q E hr h => ⟨_, PSs.nox (pss_cons (ps_fld (pv 0) (pv 1) rfl) (pss_one (ps_fld (pv 0) pe_int rfl))), ?_⟩)
  · obtain ⟨p, dx, L, rfl, _⟩ := h
    rfl
  · obtain ⟨p, dx, L, rfl, hp, k⟩ := h
    refine ⟨_, rfl, _, rfl, p, CR K, dx, [], rfl, hp, T.c_DataReader, T.a_DataReader_text, (by show 0 < 1000; decide), _, rfl, p, CR K, dx, _, rfl, upd_same, T.c_DataReader, T.a_DataReader_place, (by show 1 < 1000; decide), ?_⟩
    refine k _ (fun b o e n => by rw [upd_ne n, upd_ne n]; exact e) ⟨⟨dx, [], rfl, upd_same⟩⟩
def spSign (K : PySem.W.Frag) : Sp := fun vs H Q _ => ∃ (a : Addr) (L l : List Nat), vs = [.ref a] ∧ RdAt (CR K) H a L l ∧ L.length ≤ MX ∧ Q (.str (S (l.take 1))) H
theorem scS : FnScope ["self"] ["self"] (defScope sSign) := ⟨rfl, rfl, rfl, by decide +kernel, rfl, by decide +kernel, by decide +kernel⟩
theorem ok_sign {fd : FuncData} (F : FnM K "sign" "DataReader.sign" sSign fd) (T : Txt PG w K mg) : FnOk PG w K mg base CX0 1 (He.ma K (CR K) "sign") fd ["self"] (spSign K) := by
  refine F.ok scS (fun vs H Q E h => ?_) (fun cdv A outer s H vs Q E hr h => ⟨_, PSs.nox (pss_one (ps_ret (pe_slice sl_str (pe_fld (pv 0) rfl) (po_some (pe_fld (pv 0) rfl)) (po_some (pe_op op_add (pe_fld (pv 0) rfl) pe_int))))), ?_⟩)
  · obtain ⟨a, L, l, rfl, _⟩ := h
    rfl
  · obtain ⟨a, L, l, rfl, ⟨dx, pre, rfl, hob⟩, hL, k⟩ := h
    refine ⟨_, rfl, a, CR K, dx, _, _, rfl, hob, T.c_DataReader, T.a_DataReader_text, flds_text _ _, ?_⟩
    refine ⟨_, rfl, a, CR K, dx, _, _, rfl, hob, T.c_DataReader, T.a_DataReader_place, flds_place _ _, _, rfl, ?_⟩
    refine ⟨_, rfl, a, CR K, dx, _, _, rfl, hob, T.c_DataReader, T.a_DataReader_place, flds_place _ _, _, _, rfl, rfl, _, rfl, ?_⟩
    refine ⟨_, rfl, (by rw [SX.S_len]; exact Nat.le_trans hL mx_line), ?_⟩
    rw [cut_one]
    exact k
/-! ### refuse, expect -/
def spRefuse (K : PySem.W.Frag) : Sp := fun vs H _ E => ∃ (a : Addr) (L l : List Nat), vs = [.ref a] ∧ RdAt (CR K) H a L l ∧ L.length ≤ MX ∧ Bad K a L l H E
theorem scR : FnScope ["self"] ["self"] (defScope sRefuse) := ⟨rfl, rfl, rfl, by decide +kernel, rfl, by decide +kernel, by decide +kernel⟩
theorem ok_refuse {fd : FuncData} (F : FnM K "refuse" "DataReader.refuse" sRefuse fd) (T : Txt PG w K mg) (c : He.SaysQ fa fn fc ts ex file w K) : FnOk PG w K mg base (L2.CX PG w) 3 (He.ma K (CR K) "refuse") fd ["self"] (spRefuse K) := by
  obtain ⟨fdI, GI, bI⟩ := ok_badI (base := base) T c
  refine F.ok scR (fun vs H Q E h => ?_) (fun cdv A outer s H vs Q E hr h => ⟨_, pss_one (ps_raise rfl (takes_of rfl rfl rfl rfl) (pmk_oex T.oB T.iB T.tyB GI (hr.mono (by decide)) bI .nil pass0 rfl T.g_BadData (pa_cons (pe_fld (pv 0) rfl) pa_nil))), ?_⟩)
  · obtain ⟨a, L, l, rfl, _⟩ := h
    rfl
  · obtain ⟨a, L, l, rfl, ⟨dx, pre, rfl, hob⟩, hL, k⟩ := h
    refine ⟨_, rfl, a, CR K, dx, _, _, rfl, hob, T.c_DataReader, T.a_DataReader_place, flds_place _ _, (by show 1 ≤ 1000; decide), fun x nx => ?_⟩
    exact raise_bad (mx_log _ (by rw [List.length_append] at hL; omega)) nx k.raised
theorem sg_eq {l : List Nat} {c : Nat} : (V.str (S (l.take 1)) = V.str (S [c])) ↔ l.head? = some c := by
  cases l with
  | nil => exact ⟨fun h => (by have := SX.S_inj (V.str.inj h); cases this), fun h => (by cases h)⟩
  | cons d r =>
    constructor
    · intro h
      have := SX.S_inj (V.str.inj h)
      injection this with h1 _
      rw [h1] <;> rfl
    · intro h
      injection h with h1
      rw [h1] <;> rfl
theorem sg_nil {l : List Nat} : (V.str (S (l.take 1)) = V.str (S [])) ↔ l = [] := by
  cases l with
  | nil => exact ⟨fun _ => rfl, fun _ => rfl⟩
  | cons d r => exact ⟨fun h => (by have := SX.S_inj (V.str.inj h); cases this), fun h => (by cases h)⟩
theorem RdAt.adv {C : Addr} {H' : Hp} {a dx : Addr} {pre r : List Nat} {c : Nat} (h : H' a = some (.ins C dx (flds (S (pre ++ c :: r)) (pre.length + 1)))) : RdAt C H' a (pre ++ c :: r) r :=
  ⟨dx, pre ++ [c], by simp, by rw [h, List.length_append]; rfl⟩
def spExpect (K : PySem.W.Frag) : Sp := fun vs H Q E => ∃ (a : Addr) (L l : List Nat) (c : Nat), vs = [.ref a, .str (S [c])] ∧ RdAt (CR K) H a L l ∧ L.length ≤ MX ∧
  (l.head? = some c → ∀ H', KeepB H H' a → RdAt (CR K) H' a L l.tail → Q .non H') ∧ (l.head? ≠ some c → Bad K a L l H E)
theorem scE : FnScope ["self", "sign"] ["self", "sign"] (defScope sExpect) := ⟨rfl, rfl, rfl, by decide +kernel, rfl, by decide +kernel, by decide +kernel⟩
theorem ok_expect {fd fdS fdR : FuncData} (F : FnM K "expect" "DataReader.expect" sExpect fd) (FS : FnM K "sign" "DataReader.sign" sSign fdS) (FR : FnM K "refuse" "DataReader.refuse" sRefuse fdR) (T : Txt PG w K mg) (c : He.SaysQ fa fn fc ts ex file w K) :
    FnOk PG w K mg base (L2.CX PG w) 4 (He.ma K (CR K) "expect") fd ["self", "sign"] (spExpect K) := by
  have GS : FnOk PG w K mg base CX0 1 _ fdS ["self"] (spSign K) := ok_sign FS T
  have GR : FnOk PG w K mg base (L2.CX PG w) 3 _ fdR ["self"] (spRefuse K) := ok_refuse FR T c
  have bS : Binds K fdS ["self"] [] := FS.bindsN fun _ _ _ _ _ _ us hl => match us, hl with | [_], _ => rfl
  have bR : Binds K fdR ["self"] [] := FR.bindsN fun _ _ _ _ _ _ us hl => match us, hl with | [_], _ => rfl
  refine F.ok scE (fun vs H Q E h => ?_) (fun cdv A outer s H vs Q E hr h => ⟨_, pss_cons (ps_if (pt_cmpR op_ne (pe_meth0 (pv 0) T.c_DataReader T.m_sign GS (hr.mono (by decide)) bS .nil pass0) (pv 1) (nomark _))
      (pss_one (ps_expr (pe_meth0 (pv 0) T.c_DataReader T.m_refuse GR (hr.mono (by decide)) bR .nil (passes_call (takes_of rfl rfl rfl rfl) (fun _ _ _ _ h => h))))) pss_nil)
    (pss_one (ps_fld (pv 0) (pe_op op_add (pe_fld (pv 0) rfl) pe_int) rfl)), ?_⟩)
  · obtain ⟨a, L, l, c, rfl, _⟩ := h
    rfl
  · obtain ⟨a, L, l, c, rfl, R, hL, k1, k2⟩ := h
    obtain ⟨dx, pre, rfl, hob⟩ := id R.ob
    refine ⟨_, rfl, a, dx, _, rfl, hob, flds_no _ _ (by decide +kernel) (by decide +kernel), a, _, l, rfl, R, hL, _, rfl, rfl, _, rfl, ?_⟩
    by_cases hc : l.head? = some c
    · refine iteNS (sg_eq.mpr hc) ?_
      refine ⟨_, rfl, a, CR K, dx, _, _, rfl, hob, T.c_DataReader, T.a_DataReader_place, flds_place _ _, _, _, rfl, rfl, _, rfl, a, CR K, dx, _, rfl, hob, T.c_DataReader, T.a_DataReader_place, flds_len _ _, ?_⟩
      cases l with
      | nil => cases hc
      | cons d r =>
        refine k1 hc _ KeepB.upd (RdAt.adv (dx := dx) ?_)
        rw [upd_same]
        exact congrArg (fun z => some (HO.ins (CR K) dx z)) (flds_put (S (pre ++ d :: r)) pre.length (pre.length + 1))
    · rw [decide_eq_false (fun z => hc (sg_eq.mp z))]
      refine iteT ?_
      exact ⟨_, rfl, a, dx, _, rfl, hob, flds_no _ _ (by decide +kernel) (by decide +kernel), a, _, l, rfl, R, hL, k2 hc⟩
end
end K80

set_option Elab.async false
set_option linter.all false
set_option maxRecDepth 100000
set_option maxHeartbeats 4000000
/-! W3: DataReader's read_word. -/
namespace K80
open PySem PySem.Spec PyProof.Rows L2 DD
/-- over a text -/
theorem for_str {L : List Nat} {g : TG} {tb : TS} {D : Ends} {σ : L2.St} {H : Hp} (Pv : Nat → L2.St → Hp → Prop) (h0 : Pv 0 σ H)
    (hs : ∀ i c σ H, L[i]? = some c → Pv i σ H → g (.str (S [c])) σ H fun σ2 H2 => tb { D with nx := Pv (i + 1), ct := Pv (i + 1), bk := D.nx } σ2 H2) (hd : ∀ σ H, Pv L.length σ H → D.nx σ H) :
    ∃ W : Nat → Nat → L2.St → Hp → Prop, (∃ m, W 0 m σ H) ∧ ∀ i m σ H, W i m σ H →
      ((Its (S L)).stop i H ∧ D.nx σ H) ∨ ((Its (S L)).go i H ∧ ∃ N : L2.St → Hp → Prop, (∀ σ' H', N σ' H' → ∃ m', m' < m ∧ W (i + 1) m' σ' H') ∧ ∀ x H', (Its (S L)).yld i H x H' → g x σ H' fun σ2 H2 => tb { D with nx := N, ct := N, bk := D.nx } σ2 H2) := by
  have e0 : (S L).cps.size = L.length := SX.S_len L
  refine ⟨fun i m σ H => m = L.length - i ∧ i ≤ L.length ∧ Pv i σ H, ⟨L.length, by simp, Nat.zero_le _, h0⟩, ?_⟩
  rintro i m σ H ⟨rfl, hi, p⟩
  by_cases hlt : i < L.length
  · refine .inr ⟨by show i < (S L).cps.size; rw [e0]; exact hlt, Pv (i + 1), fun σ' H' p' => ⟨L.length - (i + 1), by omega, rfl, hlt, p'⟩, fun x H' y => ?_⟩
    obtain ⟨rfl, c, hc, rfl⟩ := y
    have hc' : L[i]? = some c := by
      have := hc
      rw [← Array.getElem?_toList] at this
      exact this
    exact hs i c σ _ hc' p
  · have e : i = L.length := by omega
    subst e
    exact .inl ⟨by show (S L).cps.size ≤ L.length; rw [e0]; exact Nat.le_refl _, hd σ H p⟩
structure Is (w : World) (K : PySem.W.Frag) (mg : Str → Option Value) (base : Heap) (CX : CXT) (k : Nat) (g : Addr) (ps : List Str) (sp : Sp) : Prop where
  ex : ∃ fd, FnOk PG w K mg base CX k g fd ps sp ∧ Binds K fd ps []
section
variable {w : World} {K : PySem.W.Frag} {mg : Str → Option Value} {base : Heap}
theorem is_sign {fd : FuncData} (F : FnM K "sign" "DataReader.sign" sSign fd) (T : Txt PG w K mg) : Is w K mg base CX0 1 (He.ma K (CR K) "sign") ["self"] (spSign K) :=
  ⟨_, ok_sign F T, F.bindsN fun _ _ _ _ _ _ us hl => match us, hl with | [_], _ => rfl⟩
theorem is_refuse {fd : FuncData} (F : FnM K "refuse" "DataReader.refuse" sRefuse fd) (T : Txt PG w K mg) (c : He.SaysQ fa fn fc ts ex file w K) : Is w K mg base (L2.CX PG w) 3 (He.ma K (CR K) "refuse") ["self"] (spRefuse K) :=
  ⟨_, ok_refuse F T c, F.bindsN fun _ _ _ _ _ _ us hl => match us, hl with | [_], _ => rfl⟩
theorem is_expect {fd fdS fdR : FuncData} (F : FnM K "expect" "DataReader.expect" sExpect fd) (FS : FnM K "sign" "DataReader.sign" sSign fdS) (FR : FnM K "refuse" "DataReader.refuse" sRefuse fdR) (T : Txt PG w K mg) (c : He.SaysQ fa fn fc ts ex file w K) :
    Is w K mg base (L2.CX PG w) 4 (He.ma K (CR K) "expect") ["self", "sign"] (spExpect K) :=
  ⟨_, ok_expect F FS FR T c, F.bindsN fun _ _ _ _ _ _ us hl => match us, hl with | [_, _], _ => rfl⟩
/-- the word of a sign -/
def WordOf (c : Nat) (W : List Nat) (v : V) : Prop := (c = 110 ∧ W = wNone ∧ v = .non) ∨ (c = 116 ∧ W = wTrue ∧ v = .bl true) ∨ (c = 102 ∧ W = wFalse ∧ v = .bl false)
def spRWord (K : PySem.W.Frag) : Sp := fun vs H Q E => ∃ (a : Addr) (L l : List Nat) (c : Nat) (W : List Nat) (v : V), vs = [.ref a] ∧ RdAt (CR K) H a L l ∧ L.length ≤ MX ∧ l.head? = some c ∧ WordOf c W v ∧
  (∀ l2, wordL W l = .ok () l2 → ∀ H', KeepB H H' a → RdAt (CR K) H' a L l2 → Q v H') ∧ (∀ x, wordL W l = .bad x → Bad K a L x H E)
theorem scW : FnScope ["self", "word", "value", "sign"] ["self"] (defScope sRWord) := ⟨rfl, rfl, rfl, by decide +kernel, rfl, by decide +kernel, by decide +kernel⟩
theorem sign_of {l : List Nat} {c : Nat} (h : l.head? = some c) : l.take 1 = [c] := by
  cases l with
  | nil => cases h
  | cons d r =>
    injection h with h1
    rw [h1] <;> rfl
theorem ok_word {fd : FuncData} (F : FnM K "read_word" "DataReader.read_word" sRWord fd) (IS : Is w K mg base CX0 1 (He.ma K (CR K) "sign") ["self"] (spSign K)) (IE : Is w K mg base (L2.CX PG w) 4 (He.ma K (CR K) "expect") ["self", "sign"] (spExpect K))
    (T : Txt PG w K mg) : FnOk PG w K mg base (L2.CX PG w) 5 (He.ma K (CR K) "read_word") fd ["self"] (spRWord K) := by
  obtain ⟨fdS, GS, bS⟩ := IS.ex
  obtain ⟨fdE, GE, bE⟩ := IE.ex
  have nd := scW.nd
  refine F.ok scW (fun vs H Q E h => ?_) (fun cdv A outer s H vs Q E hr h => ⟨_, pss_cons
      (ps_asg (pe_ix ix_kdict (pe_glob (v := .ref (He.ga K "WORDS")) rfl T.g_WORDS rfl) (pe_meth0 (pv 0) T.c_DataReader T.m_sign GS (hr.mono (by decide)) bS .nil pass0) (fun _ _ => rfl))
        (pg_tup rfl (pgs_cons (pg_name (i := 1) nd rfl (Or.inl rfl)) (pgs_cons (pg_name (i := 2) nd rfl (Or.inl rfl)) pgs_nil))))
      (pss_cons (ps_for (passes_of rfl) rfl (pi_str (pv 1)) (pg_name (i := 3) nd rfl (Or.inl rfl))
        (pss_one (ps_expr (pe_meth (pv 0) T.c_DataReader T.m_expect GE hr bE .nil (passes_call (takes_of rfl rfl rfl rfl) (fun _ _ _ _ h => h)) (pa_cons (pv 3) pa_nil)))))
      (pss_one (ps_ret (pv 2)))), ?_⟩)
  · obtain ⟨a, L, l, c, W, v, rfl, _⟩ := h
    rfl
  · obtain ⟨a, L, l, c, W, v, rfl, R, hL, hc, hW, k1, k2⟩ := h
    obtain ⟨dx, pre, e0, hob⟩ := id R.ob
    have hd : ∃ p, KDct K w (He.ga K "WORDS") (S [c]) (.ref p) ∧ SqT K H p [.str (S W), v] := by
      rcases hW with ⟨rfl, rfl, rfl⟩ | ⟨rfl, rfl, rfl⟩ | ⟨rfl, rfl, rfl⟩
      · exact ⟨_, T.wn, T.tn H⟩
      · exact ⟨_, T.wt, T.tt H⟩
      · exact ⟨_, T.wf, T.tf H⟩
    obtain ⟨p, hd, ht⟩ := hd
    refine ⟨_, rfl, a, dx, _, rfl, hob, flds_no _ _ (by decide +kernel) (by decide +kernel), a, _, l, rfl, R, hL, He.ga K "WORDS", S [c], .ref p, rfl, ?_, hd, p, _, rfl, ht, rfl, _, _, rfl, _, _, rfl, rfl, ?_⟩
    · rw [sign_of hc]
    · refine ⟨_, rfl, S W, rfl, for_str (fun i σ H' => (∃ x, σ = [some (.ref a), some (.str (S W)), some v, x]) ∧ KeepB H H' a ∧ ∃ l', RdAt (CR K) H' a L l' ∧ wordL W l = wordL (W.drop i) l') ⟨⟨_, rfl⟩, KeepB.refl, l, R, rfl⟩ ?_ ?_⟩
      · rintro i ch _ H1 hi ⟨⟨x, rfl⟩, kb, l', R1, hw⟩
        obtain ⟨dx1, pre1, e1, hob1⟩ := id R1.ob
        have hdr : W.drop i = ch :: W.drop (i + 1) := by
          obtain ⟨hlt, e⟩ := List.getElem?_eq_some_iff.mp hi
          rw [← e]
          exact List.drop_eq_getElem_cons hlt
        refine ⟨_, rfl, a, dx1, _, rfl, hob1, flds_no _ _ (by decide +kernel) (by decide +kernel), _, rfl, a, L, l', ch, rfl, R1, hL, ?_, ?_⟩
        · intro hh H2 kb2 R2
          refine ⟨⟨_, rfl⟩, kb.trans kb2, _, R2, ?_⟩
          rw [hw, hdr]
          cases l' with
          | nil => cases hh
          | cons d r =>
            injection hh with hh
            rw [wordL, if_pos hh] <;> rfl
        · intro hh
          refine Bad.up (k2 l' ?_) kb
          rw [hw, hdr]
          cases l' with
          | nil => rfl
          | cons d r => rw [wordL, if_neg (fun z => hh (by rw [z]; rfl))]
      · rintro _ H1 ⟨⟨x, rfl⟩, kb, l', R1, hw⟩
        rw [List.drop_length] at hw
        exact ⟨_, rfl, k1 l' hw H1 kb R1⟩
end
end K80

set_option Elab.async false
set_option linter.all false
set_option maxRecDepth 100000
set_option maxHeartbeats 4000000
/-! W4: DataReader's read_whole. -/
namespace K80
open PySem PySem.Spec PyProof.Rows L2 DD
theorem lit_m : ("-" : Str) = S [45] := by decide +kernel
theorem lit_0 : ("0" : Str) = S [48] := by decide +kernel
theorem lit_e : ("" : Str) = S [] := by decide +kernel
theorem iteC {c A B : Prop} [Decidable c] (h1 : c → A) (h2 : ¬ c → B) : if decide c = true then A else B := by
  by_cases h : c
  · rw [decide_eq_true h]; exact iteT (h1 h)
  · rw [decide_eq_false h]; exact iteF (h2 h)
theorem iteNC {c A B : Prop} [Decidable c] (h1 : ¬ c → A) (h2 : c → B) : if (!decide c) = true then A else B := by
  by_cases h : c
  · rw [decide_eq_true h]; exact iteF (h2 h)
  · rw [decide_eq_false h]; exact iteT (h1 h)
/-- what a reader of a thing ends with -/
def Res (K : PySem.W.Frag) (a : Addr) (L : List Nat) (H : Hp) (Q : VK) (E : XK) (r : Rs D) : Prop :=
  (∀ d l2, r = .ok d l2 → ∀ v H', KeepB H H' a → RdAt (CR K) H' a L l2 → DAt H' d v → Q v H') ∧ (∀ x, r = .bad x → Bad K a L x H E)
theorem Res.up {K : PySem.W.Frag} {a : Addr} {L : List Nat} {H H1 : Hp} {Q : VK} {E : XK} {r : Rs D} (h : Res K a L H Q E r) (k : KeepB H H1 a) : Res K a L H1 Q E r :=
  ⟨fun d l2 e v H' k2 => h.1 d l2 e v H' (k.trans k2), fun x e => (h.2 x e).up k⟩
theorem RdAt.le {C : Addr} {H : Hp} {a : Addr} {L l : List Nat} (R : RdAt C H a L l) : l.length ≤ L.length := by
  obtain ⟨dx, pre, rfl, _⟩ := R.ob
  rw [List.length_append]
  omega
theorem RdAt.at_ {C : Addr} {H : Hp} {a : Addr} {L l : List Nat} (R : RdAt C H a L l) : ∃ dx, H a = some (.ins C dx (flds (S L) (L.length - l.length))) := by
  obtain ⟨dx, pre, rfl, h⟩ := R.ob
  refine ⟨dx, ?_⟩
  have e : (pre ++ l).length - l.length = pre.length := by rw [List.length_append]; omega
  rw [e]
  exact h
theorem RdAt.suf {C : Addr} {H : Hp} {a : Addr} {L l : List Nat} (R : RdAt C H a L l) : L.drop (L.length - l.length) = l := by
  obtain ⟨dx, pre, rfl, h⟩ := R.ob
  have e : (pre ++ l).length - l.length = pre.length := by rw [List.length_append]; omega
  rw [e, List.drop_left]
section
variable {w : World} {K : PySem.W.Frag} {mg : Str → Option Value} {base : Heap}
theorem sgn {σ : L2.St} {H : Hp} {a : Addr} {L l : List Nat} {Q : VK} {E : XK} (R : RdAt (CR K) H a L l) (hL : L.length ≤ MX) (h : Q (.str (S (l.take 1))) H) :
    ∃ a' dx fs, V.ref a = .ref a' ∧ H a' = some (.ins (CR K) dx fs) ∧ fs.lookup ("sign" : Str) = none ∧ tNil σ H fun vs H2 => spSign K (V.ref a :: (vs ++ [])) H2 Q E := by
  obtain ⟨dx, hob⟩ := R.at_
  exact ⟨a, dx, _, rfl, hob, flds_no _ _ (by decide +kernel) (by decide +kernel), a, _, l, rfl, R, hL, h⟩
theorem rdPlace {H : Hp} {a : Addr} {L l : List Nat} {Q : VK} (R : RdAt (CR K) H a L l) (T : Txt PG w K mg) (h : Q (.int ((L.length - l.length : Nat) : Int)) H) :
    ∃ a' C dx fs v, V.ref a = .ref a' ∧ H a' = some (.ins C dx fs) ∧ Cls K C ∧ NoAttr K C "place" ∧ fs.lookup ("place" : Str) = some v ∧ Q v H := by
  obtain ⟨dx, hob⟩ := R.at_
  exact ⟨a, CR K, dx, _, _, rfl, hob, T.c_DataReader, T.a_DataReader_place, flds_place _ _, h⟩
theorem rdText {H : Hp} {a : Addr} {L l : List Nat} {Q : VK} (R : RdAt (CR K) H a L l) (T : Txt PG w K mg) (h : Q (.str (S L)) H) :
    ∃ a' C dx fs v, V.ref a = .ref a' ∧ H a' = some (.ins C dx fs) ∧ Cls K C ∧ NoAttr K C "text" ∧ fs.lookup ("text" : Str) = some v ∧ Q v H := by
  obtain ⟨dx, hob⟩ := R.at_
  exact ⟨a, CR K, dx, _, _, rfl, hob, T.c_DataReader, T.a_DataReader_text, flds_text _ _, h⟩
theorem stPlace {H : Hp} {a : Addr} {L r : List Nat} {c : Nat} {N : Hp → Prop} (R : RdAt (CR K) H a L (c :: r)) (T : Txt PG w K mg) (h : ∀ H', KeepB H H' a → RdAt (CR K) H' a L r → N H') :
    ∃ a' C dx fs, V.ref a = .ref a' ∧ H a' = some (.ins C dx fs) ∧ Cls K C ∧ NoAttr K C "place" ∧ fs.length < 1000 ∧ N (upd H a' (.ins C dx (putF "place" (.int (((L.length - (c :: r).length : Nat) : Int) + 1)) fs))) := by
  obtain ⟨dx, pre, rfl, hob⟩ := id R.ob
  refine ⟨a, CR K, dx, _, rfl, hob, T.c_DataReader, T.a_DataReader_place, flds_len _ _, ?_⟩
  refine h _ KeepB.upd (RdAt.adv (dx := dx) ?_)
  rw [upd_same]
  have e : (pre ++ c :: r).length - (c :: r).length = pre.length := by rw [List.length_append]; omega
  rw [e]
  exact congrArg (fun z => some (HO.ins (CR K) dx z)) (flds_put (S (pre ++ c :: r)) pre.length (pre.length + 1))
theorem refu {σ : L2.St} {H : Hp} {a : Addr} {L l : List Nat} {Q : VK} {E : XK} (R : RdAt (CR K) H a L l) (hL : L.length ≤ MX) (h : Bad K a L l H E) :
    ∃ a' dx fs, V.ref a = .ref a' ∧ H a' = some (.ins (CR K) dx fs) ∧ fs.lookup ("refuse" : Str) = none ∧ tNil σ H fun vs H2 => spRefuse K (V.ref a :: (vs ++ [])) H2 Q E := by
  obtain ⟨dx, hob⟩ := R.at_
  exact ⟨a, dx, _, rfl, hob, flds_no _ _ (by decide +kernel) (by decide +kernel), a, _, l, rfl, R, hL, h⟩
def spRWhole (K : PySem.W.Frag) : Sp := fun vs H Q E => ∃ (a : Addr) (L l : List Nat), vs = [.ref a] ∧ RdAt (CR K) H a L l ∧ L.length ≤ MX ∧ Res K a L H Q E (wholeL l)
theorem scH : FnScope ["self", "first", "down", "begin", "amount"] ["self"] (defScope sRWhole) := ⟨rfl, rfl, rfl, by decide +kernel, rfl, by decide +kernel, by decide +kernel⟩
theorem digs : (("0123456789" : Str)).cps.toList = [48, 49, 50, 51, 52, 53, 54, 55, 56, 57] := by decide +kernel
theorem dig_in {c : Nat} : c ∈ (("0123456789" : Str)).cps.toList ↔ isDig c = true := by
  rw [digs]
  unfold isDig
  rw [Bool.and_eq_true, decide_eq_true_iff, decide_eq_true_iff]
  simp only [List.mem_cons, List.not_mem_nil, or_false]
  omega
/-- the sign ahead of the figures -/
def dn (l : List Nat) : Bool := match l with | 45 :: _ => true | _ => false
def dnL (l : List Nat) : List Nat := match l with | 45 :: r => r | _ => l
theorem whole_eq (l : List Nat) : wholeL l = wholeAt (dn l) l (dnL l) := by
  cases l with
  | nil => rfl
  | cons c r =>
    by_cases h : c = 45
    · subst h; rfl
    · have e1 : dn (c :: r) = false := by
        unfold dn
        split
        · rename_i h2; injection h2 with h3 _; exact absurd h3 h
        · rfl
      have e2 : dnL (c :: r) = c :: r := by
        unfold dnL
        split
        · rename_i h2; injection h2 with h3 _; exact absurd h3 h
        · rfl
      rw [e1, e2]
      show (if c = 45 then _ else _) = _
      rw [if_neg h]
theorem cut_mid (pre ds r : List Nat) : cutS (S (pre ++ (ds ++ r))) (some (pre.length : Int)) (some ((pre.length + ds.length : Nat) : Int)) = S ds := by
  unfold cutS
  have hl : (S (pre ++ (ds ++ r))).length = pre.length + (ds.length + r.length) := by rw [SX.S_len, List.length_append, List.length_append]
  have e1 : HT.sIx (S (pre ++ (ds ++ r))).length 0 (some (pre.length : Int)) = pre.length := by
    rw [HT.sIx_nat, hl]
    omega
  have e2 : HT.sIx (S (pre ++ (ds ++ r))).length (S (pre ++ (ds ++ r))).length (some ((pre.length + ds.length : Nat) : Int)) = pre.length + ds.length := by
    rw [HT.sIx_nat, hl]
    omega
  rw [e1, e2]
  show S (((pre ++ (ds ++ r)).drop pre.length).take _) = _
  rw [List.drop_left]
  congr 1
  have : pre.length + ds.length - pre.length = ds.length := by omega
  rw [this, List.take_left]
theorem tw_append {p : Nat → Bool} {ds r : List Nat} (h : ds.all p = true) (h2 : ∀ c t, r = c :: t → p c = false) : (ds ++ r).takeWhile p = ds ∧ (ds ++ r).dropWhile p = r := by
  induction ds with
  | nil =>
    cases r with
    | nil => exact ⟨rfl, rfl⟩
    | cons c t =>
      have := h2 c t rfl
      constructor
      · show (List.takeWhile p (c :: t)) = []
        rw [List.takeWhile_cons, this] <;> rfl
      · show (List.dropWhile p (c :: t)) = c :: t
        rw [List.dropWhile_cons, this] <;> rfl
  | cons d ds ih =>
    rw [List.all_cons, Bool.and_eq_true] at h
    obtain ⟨i1, i2⟩ := ih h.2
    constructor
    · show (List.takeWhile p (d :: (ds ++ r))) = _
      rw [List.takeWhile_cons, h.1, i1] <;> rfl
    · show (List.dropWhile p (d :: (ds ++ r))) = _
      rw [List.dropWhile_cons, h.1, i2] <;> rfl
theorem ok_whole {fd : FuncData} (F : FnM K "read_whole" "DataReader.read_whole" sRWhole fd) (IS : Is w K mg base CX0 1 (He.ma K (CR K) "sign") ["self"] (spSign K)) (IR : Is w K mg base (L2.CX PG w) 3 (He.ma K (CR K) "refuse") ["self"] (spRefuse K))
    (T : Txt PG w K mg) (c : He.SaysQ fa fn fc ts ex file w K) : FnOk PG w K mg base (L2.CX PG w) 5 (He.ma K (CR K) "read_whole") fd ["self"] (spRWhole K) := by
  obtain ⟨fdS, GS, bS⟩ := IS.ex
  obtain ⟨fdR, GR, bR⟩ := IR.ex
  obtain ⟨fdI, GI, bI⟩ := ok_badI (base := base) T c
  obtain ⟨tF, hF⟩ := T.i_DATA_FIGURES
  obtain ⟨tD, hD⟩ := T.s_DIGITS
  have nd := scH.nd
  refine F.ok scH (fun vs H Q E h => ?_) (fun cdv A outer s H vs Q E hr h => ?_)
  · obtain ⟨a, L, l, rfl, _⟩ := h
    rfl
  · have pq : Passes (L2.CX PG w) (cxOf (L2.CX PG w) PG w K mg base ["self", "first", "down", "begin", "amount"] "DataReader.read_whole" (defScope sRWhole) (He.ma K (CR K) "read_whole") cdv A outer s H E) E := passes_call (takes_of rfl rfl rfl rfl) (fun _ _ _ _ h => h)
    refine ⟨_, pss_cons (ps_set (i := 1) nd rfl (Or.inl rfl) (pe_fld (pv 0) rfl)) <|
      pss_cons (ps_set (i := 2) nd rfl (Or.inl rfl) (pe_cmpR op_eq (pe_meth0 (pv 0) T.c_DataReader T.m_sign GS (hr.mono (by decide)) bS .nil pass0) pe_str (nomark _))) <|
      C8.pss_cut (ps_if (pt_val (pv 2)) (pss_one (ps_fld (pv 0) (pe_op op_add (pe_fld (pv 0) rfl) pe_int) rfl)) pss_nil) <|
      pss_cons (ps_set (i := 3) nd rfl (Or.inl rfl) (pe_fld (pv 0) rfl)) <|
      C8.pss_cut (ps_if (PW.pt (pw_or (pt_cmpR op_eq (pe_meth0 (pv 0) T.c_DataReader T.m_sign GS (hr.mono (by decide)) bS .nil pass0) pe_str (nomark _))
          (pw_or (pt_cmpR op_notIn_sign (pe_meth0 (pv 0) T.c_DataReader T.m_sign GS (hr.mono (by decide)) bS .nil pass0) (pe_glob (v := .str "0123456789") rfl hD ⟨_, rfl⟩) rfl)
          (pw_or1 (PW.pt (pw_and (pt_val (pv 2)) (pw_and1 (pt_cmpR op_eq (pe_meth0 (pv 0) T.c_DataReader T.m_sign GS (hr.mono (by decide)) bS .nil pass0) pe_str (nomark _)))))))))
        (pss_one (ps_expr (pe_meth0 (pv 0) T.c_DataReader T.m_refuse GR (hr.mono (by decide)) bR .nil pq))) pss_nil) <|
      C8.pss_cut (ps_while (passes_of rfl) (PW.pt (pw_and (pt_cmpR op_ne (pe_meth0 (pv 0) T.c_DataReader T.m_sign GS (hr.mono (by decide)) bS .nil pass0) pe_str (nomark _))
          (pw_and1 (pt_cmpR op_in_sign (pe_meth0 (pv 0) T.c_DataReader T.m_sign GS (hr.mono (by decide)) bS .nil pass0) (pe_glob (v := .str "0123456789") rfl hD ⟨_, rfl⟩) rfl))))
        (C8.pss_cut (ps_if (PW.pt (pw_and (pt_cmpR op_gt (pe_fld (pv 0) rfl) (pv 3) (nomark _)) (pw_and1 (pt_cmpR op_eq (pe_ix ix_str (pe_fld (pv 0) rfl) (pv 3) (fun _ _ => rfl)) pe_str (nomark _)))))
            (pss_one (ps_expr (pe_meth0 (pv 0) T.c_DataReader T.m_refuse GR (hr.mono (by decide)) bR .nil pq))) pss_nil)
          (pss_one (ps_fld (pv 0) (pe_op op_add (pe_fld (pv 0) rfl) pe_int) rfl)))) <|
      pss_cons (ps_if (pt_cmpR op_gt (pe_op op_sub (pe_fld (pv 0) rfl) (pv 3)) (pe_glob (v := .int 1500) rfl hF ⟨_, rfl⟩) (nomark _))
        (pss_one (ps_raise rfl (takes_of rfl rfl rfl rfl) (pmk_oex T.oB T.iB T.tyB GI (hr.mono (by decide)) bI .nil pass0 rfl T.g_BadData (pa_cons (pv 1) pa_nil)))) pss_nil) <|
      pss_cons (ps_set (i := 4) nd rfl (Or.inl rfl) (pe_callTy (Q7.call_int_big T.nd) (by rfl) T.n_int (by decide +kernel) (pa_cons (pe_slice sl_str (pe_fld (pv 0) rfl) (po_some (pv 3)) (po_some (pe_fld (pv 0) rfl))) pa_nil))) <|
      pss_one (ps_ret (pe_ifExp (pt_val (pv 2)) (pe_un un_neg (pv 4)) (pv 4))), ?_⟩
    obtain ⟨a, L, l, rfl, R, hL, k⟩ := h
    rw [whole_eq] at k
    have hlL := R.le
    refine ⟨_, rfl, rdPlace R T ?_⟩
    refine ⟨_, rfl, sgn R hL ⟨rfl, ?_⟩⟩
    have hdn : decide (V.str (S (l.take 1)) = V.str ("-" : Str)) = dn l := by
      rw [lit_m]
      cases l with
      | nil => exact decide_eq_false fun z => by have := sg_eq (l := []).mp z; cases this
      | cons d r =>
        by_cases hd : d = 45
        · subst hd; exact decide_eq_true rfl
        · have e1 : dn (d :: r) = false := by
            unfold dn
            split
            · rename_i h2; injection h2 with h3 _; exact absurd h3 hd
            · rfl
          rw [e1]
          exact decide_eq_false fun z => hd (Option.some.inj (sg_eq.mp z))
    refine ⟨fun σ H' => σ = [some (.ref a), some (.int ((L.length - l.length : Nat) : Int)), some (.bl (dn l)), none, none] ∧ KeepB H H' a ∧ RdAt (CR K) H' a L (dnL l), ?_, ?_⟩
    · show ∃ v, _ = some (some v) ∧ _
      refine ⟨.bl (dn l), congrArg (fun b => some (some (V.bl b))) hdn, dn l, rfl, ?_⟩
      cases l with
      | nil => exact iteF ⟨by rw [hdn] <;> rfl, KeepB.refl, R⟩
      | cons d r =>
        by_cases hd : d = 45
        · subst hd
          refine iteT ⟨_, rfl, ?_⟩
          apply rdPlace R T
          refine ⟨_, _, rfl, rfl, _, rfl, ?_⟩
          refine stPlace R T fun H' kb R' => ⟨by rw [hdn] <;> rfl, kb, R'⟩
        · have e1 : dn (d :: r) = false := by
            unfold dn
            split
            · rename_i h2; injection h2 with h3 _; exact absurd h3 hd
            · rfl
          have e2 : dnL (d :: r) = d :: r := by
            unfold dnL
            split
            · rename_i h2; injection h2 with h3 _; exact absurd h3 hd
            · rfl
          rw [e1, e2]
          exact iteF ⟨by rw [hdn, e1] <;> rfl, KeepB.refl, R⟩
    · rintro _ H1 ⟨rfl, kb1, R1⟩
      replace k := k.up kb1
      clear kb1 hdn
      generalize dn l = down at k ⊢
      generalize dnL l = l1 at k R1
      have hl1 := R1.le
      refine ⟨_, rfl, rdPlace R1 T ?_⟩
      refine ⟨fun σ H' => σ = [some (.ref a), some (.int ((L.length - l.length : Nat) : Int)), some (.bl down), some (.int ((L.length - l1.length : Nat) : Int)), none] ∧ H' = H1 ∧ ∃ d r, l1 = d :: r ∧ isDig d = true ∧ ¬ (down = true ∧ d = 48), ?_, ?_⟩
      · refine ⟨_, rfl, ?_⟩
        apply sgn R1 hL
        refine ⟨rfl, _, rfl, ?_⟩
        rw [lit_e]
        cases l1 with
        | nil =>
          refine iteC (fun _ => iteT ⟨_, rfl, ?_⟩) (fun z => absurd (sg_nil.mpr rfl) z)
          exact refu R1 hL (k.2 [] rfl)
        | cons d r =>
          refine iteC (fun z => absurd (sg_nil.mp z) (List.cons_ne_nil _ _)) fun _ => ⟨_, rfl, ?_⟩
          apply sgn R1 hL
          refine ⟨d, _, rfl, rfl, _, rfl, ?_⟩
          refine iteNC (fun hd => iteT ⟨_, rfl, refu R1 hL (k.2 (d :: r) ?_)⟩) (fun hd => ⟨_, rfl, _, rfl, ?_⟩)
          · have e : isDig d = false := by
              cases q : isDig d with
              | false => rfl
              | true => exact absurd (dig_in.mpr q) hd
            show (if _ then _ else _) = _
            rw [if_pos (Or.inl e)]
          · have hdg : isDig d = true := dig_in.mp hd
            cases down with
            | false => exact iteF (iteF ⟨rfl, rfl, d, r, rfl, hdg, fun z => by cases z.1⟩)
            | true =>
              refine iteT ⟨_, rfl, ?_⟩
              apply sgn R1 hL
              refine ⟨rfl, _, rfl, ?_⟩
              rw [lit_0]
              refine iteC (fun z => ?_) (fun z => ?_)
              · refine ⟨_, rfl, ?_⟩
                refine refu R1 hL (k.2 (d :: r) ?_)
                show (if _ then _ else _) = _
                rw [if_pos (Or.inr ⟨rfl, Option.some.inj (sg_eq.mp z)⟩)]
              · exact ⟨rfl, rfl, d, r, rfl, hdg, fun y => z (sg_eq.mpr (by rw [y.2]; rfl))⟩
      · rintro _ H1 ⟨rfl, rfl, d, r, rfl, hd, hz⟩
        have hw1 : wholeAt down l (d :: r) = (if d = 48 ∧ ((d :: r).takeWhile isDig).length > 1 then .bad r
            else if ((d :: r).takeWhile isDig).length > 1500 then .bad l
            else .ok (.int (if down then -((NumText.digitsVal ((d :: r).takeWhile isDig) : Nat) : Int) else ((NumText.digitsVal ((d :: r).takeWhile isDig) : Nat) : Int))) ((d :: r).dropWhile isDig)) := by
          show (if _ then _ else _) = _
          rw [if_neg]
          rintro (h | h)
          · rw [hd] at h; cases h
          · exact hz h
        rw [hw1] at k
        refine ⟨fun σ H' => σ = [some (.ref a), some (.int ((L.length - l.length : Nat) : Int)), some (.bl down), some (.int ((L.length - (d :: r).length : Nat) : Int)), none] ∧ KeepB H1 H' a ∧ ∃ ds l', RdAt (CR K) H' a L l' ∧ d :: r = ds ++ l' ∧ ds.all isDig = true ∧ ds ≠ [] ∧ (∀ c t, l' = c :: t → isDig c = false) ∧ ¬ (d = 48 ∧ ds.length > 1), ?_, ?_⟩
        · refine ⟨fun m σ H' => σ = [some (.ref a), some (.int ((L.length - l.length : Nat) : Int)), some (.bl down), some (.int ((L.length - (d :: r).length : Nat) : Int)), none] ∧ KeepB H1 H' a ∧ ∃ ds l', m = l'.length ∧ RdAt (CR K) H' a L l' ∧ d :: r = ds ++ l' ∧ ds.all isDig = true ∧ ¬ (d = 48 ∧ ds.length > 1), ⟨_, rfl, KeepB.refl, [], d :: r, rfl, R1, rfl, rfl, fun z => by cases z.2⟩, ?_⟩
          rintro m _ H2 ⟨rfl, kb2, ds, l', rfl, R2, e2, ha, hn⟩
          refine ⟨_, rfl, ?_⟩
          apply sgn R2 hL
          refine ⟨rfl, _, rfl, ?_⟩
          rw [lit_e]
          cases l' with
          | nil =>
            refine iteNC (fun z => absurd (sg_nil.mpr rfl) z) fun _ => ?_
            exact iteF ⟨rfl, kb2, ds, [], R2, e2, ha, (fun z => by rw [z] at e2; cases e2), (fun _ _ z => by cases z), hn⟩
          | cons c t =>
            refine iteNC (fun _ => ⟨_, rfl, ?_⟩) fun z => absurd (sg_nil.mp z) (List.cons_ne_nil _ _)
            apply sgn R2 hL
            refine ⟨c, _, rfl, rfl, _, rfl, ?_⟩
            refine iteC (fun hc => ?_) (fun hc => ?_)
            · have hc' : isDig c = true := dig_in.mp hc
              have hl2 := R2.le
              have hlen : (d :: r).length = ds.length + (c :: t).length := by rw [e2, List.length_append]
              refine ⟨fun σ' H' => σ' = [some (.ref a), some (.int ((L.length - l.length : Nat) : Int)), some (.bl down), some (.int ((L.length - (d :: r).length : Nat) : Int)), none] ∧ KeepB H1 H' a ∧ ∃ ds2 l2, t.length = l2.length ∧ RdAt (CR K) H' a L l2 ∧ d :: r = ds2 ++ l2 ∧ ds2.all isDig = true ∧ ¬ (d = 48 ∧ ds2.length > 1), ?_, ?_⟩
              · rintro σ' H' ⟨h1, h2, ds2, l2, h3, h4⟩
                exact ⟨l2.length, by rw [← h3, List.length_cons]; omega, h1, h2, ds2, l2, rfl, h4⟩
              · refine ⟨fun σ H' => σ = [some (.ref a), some (.int ((L.length - l.length : Nat) : Int)), some (.bl down), some (.int ((L.length - (d :: r).length : Nat) : Int)), none] ∧ H' = H2 ∧ ¬ (d = 48 ∧ ds.length ≥ 1), ?_, ?_⟩
                · refine ⟨_, rfl, ?_⟩
                  apply rdPlace R2 T
                  refine ⟨_, rfl, _, _, rfl, rfl, _, rfl, ?_⟩
                  refine iteC (fun hg => ⟨_, rfl, ?_⟩) (fun hg => iteF ⟨rfl, rfl, fun z => hg ?_⟩)
                  · apply rdText R2 T
                    obtain ⟨_, pre, eL, _⟩ := R1.ob
                    have ep : L.length - (d :: r).length = pre.length := by rw [eL, List.length_append]; omega
                    refine ⟨_, rfl, _, _, d, rfl, rfl, (by rw [SX.S_len]; exact Nat.le_trans hL mx_line), ?_, rfl, _, rfl, ?_⟩
                    · rw [ep]
                      refine atI_nat ?_
                      show L[pre.length]? = some d
                      rw [eL, List.getElem?_append_right (Nat.le_refl _), Nat.sub_self] <;> rfl
                    · rw [lit_0]
                      refine iteC (fun z => ?_) (fun z => ?_)
                      · have hd0 : d = 48 := Option.some.inj (sg_eq (l := [d]).mp z)
                        refine ⟨_, rfl, refu R2 hL ((k.up kb2).2 (c :: t) ?_)⟩
                        have h1 : ds.length = 1 := by
                          have : ds.length ≥ 1 := by omega
                          have : ¬ ds.length > 1 := fun q => hn ⟨hd0, q⟩
                          omega
                        obtain ⟨y, rfl⟩ : ∃ y, ds = [y] := by
                          match ds, h1 with
                          | [y], _ => exact ⟨y, rfl⟩
                        have e3 : r = c :: t := by injection e2
                        rw [if_pos]
                        · rw [e3]
                        · refine ⟨hd0, ?_⟩
                          rw [e3, List.takeWhile_cons, hd, if_pos rfl, List.takeWhile_cons, hc', if_pos rfl, List.length_cons, List.length_cons]
                          omega
                      · exact ⟨rfl, rfl, fun q => z (by rw [q.1])⟩
                  · have := z.2
                    omega
                · rintro _ H2 ⟨rfl, rfl, hn2⟩
                  refine ⟨_, rfl, ?_⟩
                  apply rdPlace R2 T
                  refine ⟨_, _, rfl, rfl, _, rfl, ?_⟩
                  refine stPlace R2 T fun H' kb R' => ⟨rfl, kb2.trans kb, ds ++ [c], t, rfl, R', by rw [e2]; simp, ?_, ?_⟩
                  · rw [List.all_append, ha] <;> simp [hc']
                  · rw [List.length_append]
                    intro z
                    exact hn2 ⟨z.1, by have := z.2; simp at this; omega⟩
            · refine ⟨rfl, kb2, ds, c :: t, R2, e2, ha, ?_, ?_, hn⟩
              · rintro rfl
                injection e2 with e3 _
                rw [← e3] at hc
                exact hc (dig_in.mpr hd)
              · intro c' t' z
                injection z with z1 _
                rw [← z1]
                cases q : isDig c with
                | false => rfl
                | true => exact absurd (dig_in.mpr q) hc
        · rintro _ H2 ⟨rfl, kb2, ds, l', R2, e2, ha, hne, hnx, hn⟩
          obtain ⟨w1, w2⟩ := tw_append ha hnx
          rw [← e2] at w1 w2
          rw [w1, w2, if_neg hn] at k
          replace k := k.up kb2
          obtain ⟨_, pre, eL, _⟩ := R1.ob
          have ep : L.length - (d :: r).length = pre.length := by rw [eL, List.length_append]; omega
          have eq : L.length - l'.length = pre.length + ds.length := by rw [eL, e2, List.length_append, List.length_append]; omega
          refine ⟨_, rfl, ?_⟩
          apply rdPlace R2 T
          refine ⟨_, rfl, _, _, rfl, rfl, _, _, rfl, rfl, _, rfl, ?_⟩
          rw [ep, eq]
          refine iteC (fun hg => ?_) (fun hg => ?_)
          · have hg' : ds.length > 1500 := by omega
            rw [if_pos hg'] at k
            refine ⟨_, rfl, (by show 1 ≤ 1000; decide), fun x nx => ?_⟩
            exact raise_bad (mx_log _ (by omega)) nx (fun d' H' s n e => k.2 l rfl d' H' (KeepB.same s) e)
          · have hg' : ¬ ds.length > 1500 := by omega
            rw [if_neg hg'] at k
            refine ⟨_, rfl, ?_⟩
            apply rdText R2 T
            refine ⟨_, rfl, _, rfl, _, rfl, ?_⟩
            apply rdPlace R2 T
            refine ⟨_, rfl, _, rfl, (by rw [SX.S_len]; exact Nat.le_trans hL mx_line), ?_⟩
            rw [eq, eL, e2, cut_mid]
            have hdsl : (S ds).length ≤ 4300 := by rw [SX.S_len]; omega
            refine ⟨_, _, rfl, SX.int_S ha hne (by omega), hdsl, ?_⟩
            refine ⟨_, rfl, down, rfl, ?_⟩
            cases down with
            | true => exact iteT ⟨_, rfl, _, rfl, k.1 _ _ rfl _ _ KeepB.refl R2 (by unfold DAt; rfl)⟩
            | false => exact iteF ⟨_, rfl, k.1 _ _ rfl _ _ KeepB.refl R2 (by unfold DAt; rfl)⟩
end
end K80

set_option Elab.async false
set_option linter.all false
set_option maxRecDepth 100000
set_option maxHeartbeats 4000000
/-! W5: DataReader's read_text, read_atom. -/
namespace K80
open PySem PySem.Spec PyProof.Rows L2 DD
theorem lit_q : ("\"" : Str) = S [34] := by decide +kernel
theorem lit_sp : (" " : Str) = S [32] := by decide +kernel
theorem lit_ti : ("~" : Str) = S [126] := by decide +kernel
theorem lit_bs : ("\\" : Str) = S [92] := by decide +kernel
theorem lit_nl : ("\n" : Str) = S [10] := by decide +kernel
theorem lit_n : ("n" : Str) = S [110] := by decide +kernel
theorem lit_bqn : (("\\\"n" : Str)).cps.toList = [92, 34, 110] := by decide +kernel
theorem lit_ntf : (("ntf" : Str)).cps.toList = [110, 116, 102] := by decide +kernel
theorem textL_c (c : Nat) (r acc : List Nat) : textL (c :: r) acc = (if c = 34 then .ok acc r
    else if ¬ (32 ≤ c ∧ c ≤ 126) then .bad (c :: r)
    else if c = 92 then (match r with
      | [] => .bad []
      | e :: r2 => if e = 92 ∨ e = 34 ∨ e = 110 then textL r2 (acc ++ [if e = 110 then 10 else e]) else .bad (e :: r2))
    else textL r (acc ++ [c])) := by rw [textL.eq_def] <;> rfl
def sgV (c : Nat) : V := .str (S [c])
theorem join_sg (l : List Nat) : Txt.join (S []) (l.map fun c => S [c]) = S l := by
  have e : (l.map fun c => S [c]) = (l.map fun c => [c]).map S := by rw [List.map_map]; rfl
  rw [e, SX.join_S]
  congr 1
  clear e
  induction l with
  | nil => rfl
  | cons c r ih =>
    cases r with
    | nil => rfl
    | cons d t =>
      show [c] ++ ([] ++ TL.joinL [] ((d :: t).map fun c => [c])) = _
      rw [ih] <;> rfl
theorem sum_one (l : List Nat) : ((l.map fun c => S [c]).map (·.length)).sum = l.length := by
  induction l with
  | nil => rfl
  | cons c r ih =>
    rw [List.map_cons, List.map_cons, List.sum_cons, ih, List.length_cons, SX.S_len]
    show 1 + r.length = _
    omega
section
variable {w : World} {K : PySem.W.Frag} {mg : Str → Option Value} {base : Heap}
theorem RdAt.ne {C : Addr} {H : Hp} {a p : Addr} {L l : List Nat} (R : RdAt C H a L l) (h : H p = none) : a ≠ p := by
  obtain ⟨dx, q⟩ := R.at_
  rintro rfl
  rw [q] at h
  cases h
theorem RdAt.upd {C : Addr} {H : Hp} {a p : Addr} {o : HO} {L l : List Nat} (R : RdAt C H a L l) (h : a ≠ p) : RdAt C (L2.upd H p o) a L l := by
  obtain ⟨dx, pre, e, q⟩ := R.ob
  exact ⟨dx, pre, e, by rw [upd_ne h]; exact q⟩
theorem KeepB.new {H H1 : Hp} {a p : Addr} {o : HO} (h : KeepB H H1 a) (n : H p = none) : KeepB H (L2.upd H1 p o) a := fun b u e ne => by
  rw [upd_ne (ne_of_none e n)]
  exact h b u e ne
def spRText (K : PySem.W.Frag) : Sp := fun vs H Q E => ∃ (a : Addr) (L r : List Nat), vs = [.ref a] ∧ RdAt (CR K) H a L (34 :: r) ∧ L.length ≤ MX ∧
  (∀ s l2, textL r [] = .ok s l2 → ∀ H', KeepB H H' a → RdAt (CR K) H' a L l2 → Q (.str (S s)) H') ∧ (∀ x, textL r [] = .bad x → Bad K a L x H E)
theorem scT : FnScope ["self", "parts", "sign"] ["self"] (defScope sRText) := ⟨rfl, rfl, rfl, by decide +kernel, rfl, by decide +kernel, by decide +kernel⟩
theorem lt1 (c d : Nat) : ((S [c]).cps.toList < (S [d]).cps.toList) ↔ c < d := by
  show ([c] < [d]) ↔ _
  constructor
  · intro h
    rcases List.cons_lt_cons_iff.mp h with h | h
    · exact h
    · cases h.2
  · intro h
    exact List.cons_lt_cons_iff.mpr (.inl h)
theorem ok_text {fd : FuncData} (F : FnM K "read_text" "DataReader.read_text" sRText fd) (IS : Is w K mg base CX0 1 (He.ma K (CR K) "sign") ["self"] (spSign K)) (IR : Is w K mg base (L2.CX PG w) 3 (He.ma K (CR K) "refuse") ["self"] (spRefuse K))
    (IE : Is w K mg base (L2.CX PG w) 4 (He.ma K (CR K) "expect") ["self", "sign"] (spExpect K)) (T : Txt PG w K mg) : FnOk PG w K mg base (L2.CX PG w) 5 (He.ma K (CR K) "read_text") fd ["self"] (spRText K) := by
  obtain ⟨fdS, GS, bS⟩ := IS.ex
  obtain ⟨fdR, GR, bR⟩ := IR.ex
  obtain ⟨fdE, GE, bE⟩ := IE.ex
  have nd := scT.nd
  refine F.ok scT (fun vs H Q E h => ?_) (fun cdv A outer s H vs Q E hr h => ?_)
  · obtain ⟨a, L, r, rfl, _⟩ := h
    rfl
  · have pq : Passes (L2.CX PG w) (cxOf (L2.CX PG w) PG w K mg base ["self", "parts", "sign"] "DataReader.read_text" (defScope sRText) (He.ma K (CR K) "read_text") cdv A outer s H E) E := passes_call (takes_of rfl rfl rfl rfl) (fun _ _ _ _ h => h)
    refine ⟨_, pss_cons (ps_expr (pe_meth (pv 0) T.c_DataReader T.m_expect GE hr bE .nil pq (pa_cons pe_str pa_nil))) <|
      pss_cons (ps_set (i := 1) nd rfl (Or.inl rfl) (pe_lst pa_nil)) <|
      C8.pss_cut (ps_while (passes_of rfl) (pt_cmpR op_ne (pe_meth0 (pv 0) T.c_DataReader T.m_sign GS (hr.mono (by decide)) bS .nil pass0) pe_str (nomark _))
        (pss_cons (ps_set (i := 2) nd rfl (Or.inl rfl) (pe_meth0 (pv 0) T.c_DataReader T.m_sign GS (hr.mono (by decide)) bS .nil pass0)) <|
         C8.pss_cut (ps_if (PW.pt (pw_or (pt_cmpR op_eq (pv 2) pe_str (nomark _)) (pw_or1 (pt_not (pt_chain op_le_str op_le_str pe_str (pv 2) pe_str)))))
            (pss_one (ps_expr (pe_meth0 (pv 0) T.c_DataReader T.m_refuse GR (hr.mono (by decide)) bR .nil pq))) pss_nil) <|
         pss_cons (ps_fld (pv 0) (pe_op op_add (pe_fld (pv 0) rfl) pe_int) rfl) <|
         C8.pss_cut (ps_if (pt_cmpR op_eq (pv 2) pe_str (nomark _))
            (pss_cons (ps_set (i := 2) nd rfl (Or.inl rfl) (pe_meth0 (pv 0) T.c_DataReader T.m_sign GS (hr.mono (by decide)) bS .nil pass0)) <|
             C8.pss_cut (ps_if (PW.pt (pw_or (pt_cmpR op_eq (pv 2) pe_str (nomark _)) (pw_or1 (pt_cmpR op_notIn_sign (pv 2) pe_str rfl))))
                (pss_one (ps_expr (pe_meth0 (pv 0) T.c_DataReader T.m_refuse GR (hr.mono (by decide)) bR .nil pq))) pss_nil) <|
             pss_cons (ps_fld (pv 0) (pe_op op_add (pe_fld (pv 0) rfl) pe_int) rfl) <|
             pss_one (ps_set (i := 2) nd rfl (Or.inl rfl) (pe_ifExp (pt_cmpR op_eq (pv 2) pe_str (nomark _)) pe_str (pv 2)))) pss_nil) <|
         pss_one (ps_expr (pe_bm PySem.F.plainAttrs_list PySem.F.slot_list_append PySem.F.type_list_append mt_append (pv 1) (pa_cons (pv 2) pa_nil))))) <|
      pss_cons (ps_fld (pv 0) (pe_op op_add (pe_fld (pv 0) rfl) pe_int) rfl) <|
      pss_one (ps_ret (pe_join pe_str (pv 1))), ?_⟩
    obtain ⟨a, L, r, rfl, R, hL, k1, k2⟩ := h
    have hlL := R.le
    obtain ⟨dx, hob⟩ := R.at_
    refine ⟨_, rfl, a, dx, _, rfl, hob, flds_no _ _ (by decide +kernel) (by decide +kernel), a, L, 34 :: r, 34, rfl, R, hL, fun _ H1 kb1 R1 => ?_, fun z => absurd rfl z⟩
    refine ⟨Nat.zero_le _, fun p np => ?_⟩
    have np0 : H p = none := kb1.free (R1.at_.choose_spec) np
    have nap : a ≠ p := R1.ne np
    refine ⟨fun σ H' => ∃ acc l' sg, σ = [some (.ref a), some (.ref p), sg] ∧ KeepB H H' a ∧ RdAt (CR K) H' a L (34 :: l') ∧ H' p = some (.lst (acc.map sgV)) ∧ textL r [] = .ok acc l' ∧ acc.length ≤ MX, ?_, ?_⟩
    · refine ⟨fun m σ H' => ∃ acc l' sg, σ = [some (.ref a), some (.ref p), sg] ∧ m = l'.length ∧ KeepB H H' a ∧ RdAt (CR K) H' a L l' ∧ H' p = some (.lst (acc.map sgV)) ∧ textL r [] = textL l' acc ∧ acc.length + l'.length ≤ L.length,
        ⟨_, [], r, _, rfl, rfl, kb1.new np0, R1.upd nap, upd_same, rfl, by rw [List.length_cons] at hlL; simp; omega⟩, ?_⟩
      rintro m _ H2 ⟨acc, l', sg, rfl, rfl, kb2, R2, hp2, et, hlen⟩
      refine ⟨_, rfl, ?_⟩
      apply sgn R2 hL
      refine ⟨rfl, _, rfl, ?_⟩
      rw [lit_q]
      refine iteNC (fun h34 => ?_) (fun h34 => ?_)
      · have hne : l'.head? ≠ some 34 := fun z => h34 (sg_eq.mpr z)
        refine ⟨fun σ' H' => ∃ acc2 l2 sg2, σ' = [some (.ref a), some (.ref p), sg2] ∧ l2.length < l'.length ∧ KeepB H H' a ∧ RdAt (CR K) H' a L l2 ∧ H' p = some (.lst (acc2.map sgV)) ∧ textL r [] = textL l2 acc2 ∧ acc2.length + l2.length ≤ L.length,
          fun σ' H' ⟨acc2, l2, sg2, h1, h2, h3⟩ => ⟨_, h2, acc2, l2, sg2, h1, rfl, h3⟩, ?_⟩
        refine ⟨_, rfl, ?_⟩
        apply sgn R2 hL
        refine ⟨fun σ H' => σ = [some (.ref a), some (.ref p), some (.str (S (l'.take 1)))] ∧ H' = H2 ∧ ∃ c t, l' = c :: t ∧ 32 ≤ c ∧ c ≤ 126, ?_, ?_⟩
        · refine ⟨_, rfl, rfl, _, rfl, ?_⟩
          rw [lit_e]
          cases l' with
          | nil =>
            refine iteC (fun _ => iteT ⟨_, rfl, ?_⟩) (fun z => absurd (sg_nil.mpr rfl) z)
            exact refu R2 hL ((k2 [] (by rw [et]; rfl)).up kb2)
          | cons c t =>
            have hc34 : c ≠ 34 := fun z => hne (by rw [z]; rfl)
            refine iteC (fun z => absurd (sg_nil.mp z) (List.cons_ne_nil _ _)) fun _ => ?_
            refine ⟨_, rfl, _, _, rfl, rfl, _, rfl, ?_⟩
            rw [lit_sp, lit_ti]
            show if (!decide ((S [c]).cps.toList < (S [32]).cps.toList)) = true then _ else _
            rw [decide_eq_decide.mpr (lt1 c 32)]
            refine iteNC (fun h32 => ⟨_, _, rfl, rfl, _, rfl, ?_⟩) (fun h32 => ⟨_, rfl, ?_⟩)
            · show if (!(!decide ((S [126]).cps.toList < (S [c]).cps.toList))) = true then _ else _
              rw [decide_eq_decide.mpr (lt1 126 c), Bool.not_not]
              refine iteC (fun h126 => ⟨_, rfl, ?_⟩) (fun h126 => ⟨rfl, rfl, c, t, rfl, by omega, by omega⟩)
              refine refu R2 hL ((k2 (c :: t) ?_).up kb2)
              rw [et, textL_c, if_neg hc34, if_pos (by omega)]
            · show if (!false) = true then _ else _
              refine iteT ⟨_, rfl, refu R2 hL ((k2 (c :: t) ?_).up kb2)⟩
              rw [et, textL_c, if_neg hc34, if_pos (by omega)]
        · rintro _ H2 ⟨rfl, rfl, c, t, rfl, hlo, hhi⟩
          have hc34 : c ≠ 34 := fun z => hne (by rw [z]; rfl)
          refine ⟨_, rfl, ?_⟩
          apply rdPlace R2 T
          refine ⟨_, _, rfl, rfl, _, rfl, ?_⟩
          refine stPlace R2 T fun H3 kb3 R3 => ?_
          have hp3 : H3 p = some (.lst (acc.map sgV)) := kb3 p _ hp2 (Ne.symm nap)
          refine ⟨fun σ H' => ∃ x l2, σ = [some (.ref a), some (.ref p), some (.str (S [x]))] ∧ KeepB H3 H' a ∧ RdAt (CR K) H' a L l2 ∧ l2.length < (c :: t).length ∧ textL r [] = textL l2 (acc ++ [x]), ?_, ?_⟩
          · refine ⟨_, rfl, rfl, _, rfl, ?_⟩
            rw [lit_bs]
            refine iteC (fun h92 => ?_) (fun h92 => ?_)
            · have hc92 : c = 92 := Option.some.inj (sg_eq (l := c :: t).mp h92)
              refine ⟨_, rfl, ?_⟩
              apply sgn R3 hL
              refine ⟨fun σ H' => σ = [some (.ref a), some (.ref p), some (.str (S (t.take 1)))] ∧ H' = H3 ∧ ∃ e t2, t = e :: t2 ∧ (e = 92 ∨ e = 34 ∨ e = 110), ?_, ?_⟩
              · refine ⟨_, rfl, rfl, _, rfl, ?_⟩
                rw [lit_e]
                cases t with
                | nil =>
                  refine iteC (fun _ => iteT ⟨_, rfl, ?_⟩) (fun z => absurd (sg_nil.mpr rfl) z)
                  refine refu R3 hL ((k2 [] ?_).up (kb2.trans kb3))
                  rw [et, textL_c, if_neg hc34, if_neg (by omega), if_pos hc92]
                | cons e t2 =>
                  refine iteC (fun z => absurd (sg_nil.mp z) (List.cons_ne_nil _ _)) fun _ => ?_
                  refine ⟨_, rfl, e, _, rfl, rfl, _, rfl, ?_⟩
                  rw [lit_bqn]
                  refine iteNC (fun h => ⟨_, rfl, ?_⟩) (fun h => ⟨rfl, rfl, e, t2, rfl, by simpa using h⟩)
                  refine refu R3 hL ((k2 (e :: t2) ?_).up (kb2.trans kb3))
                  rw [et, textL_c, if_neg hc34, if_neg (by omega), if_pos hc92]
                  exact if_neg (by simpa using h)
              · rintro _ H3 ⟨rfl, rfl, e, t2, rfl, he⟩
                refine ⟨_, rfl, ?_⟩
                apply rdPlace R3 T
                refine ⟨_, _, rfl, rfl, _, rfl, ?_⟩
                refine stPlace R3 T fun H4 kb4 R4 => ?_
                have ht : textL r [] = textL t2 (acc ++ [if e = 110 then 10 else e]) := by
                  rw [et, textL_c, if_neg hc34, if_neg (by omega), if_pos hc92]
                  exact if_pos he
                refine ⟨_, rfl, rfl, _, rfl, ?_⟩
                rw [lit_n, lit_nl]
                refine iteC (fun z => ?_) (fun z => ?_)
                · have he : e = 110 := Option.some.inj (sg_eq (l := e :: t2).mp z)
                  refine ⟨10, t2, rfl, kb4, R4, by simp only [List.length_cons]; omega, ?_⟩
                  rw [ht, if_pos he]
                · have he : e ≠ 110 := fun q => z (by rw [q]; rfl)
                  refine ⟨_, rfl, e, t2, rfl, kb4, R4, by simp only [List.length_cons]; omega, ?_⟩
                  rw [ht, if_neg he]
            · have hc92 : c ≠ 92 := fun q => h92 (by rw [q]; rfl)
              refine ⟨c, t, rfl, KeepB.refl, R3, by simp only [List.length_cons]; omega, ?_⟩
              rw [et, textL_c, if_neg hc34, if_neg (by omega), if_neg hc92]
          · rintro _ H4 ⟨x, l2, rfl, kb4, R4, hl2, e4⟩
            have hp4 := kb4 p _ hp3 (Ne.symm nap)
            refine ⟨_, rfl, .inl ⟨rfl, _, SqL.of hp4⟩, _, rfl, p, _, _, rfl, rfl, hp4, ?_, ?_⟩
            · rw [List.length_map]
              have := mx_line
              omega
            · refine ⟨acc ++ [x], l2, _, rfl, hl2, KeepB.new ((kb2.trans kb3).trans kb4) np0, R4.upd nap, ?_, e4, ?_⟩
              · rw [upd_same, List.map_append] <;> rfl
              · rw [List.length_append]
                simp only [List.length_cons, List.length_nil] at hlen hl2 ⊢
                omega
      · have h34' := sg_eq.mp h34
        cases l' with
        | nil => cases h34'
        | cons c t =>
          have hc : c = 34 := Option.some.inj h34'
          subst hc
          exact ⟨acc, t, sg, rfl, kb2, R2, hp2, by rw [et, textL_c, if_pos rfl], by omega⟩
    · rintro _ H2 ⟨acc, l', sg, rfl, kb2, R2, hp2, et, hlen⟩
      refine ⟨_, rfl, ?_⟩
      apply rdPlace R2 T
      refine ⟨_, _, rfl, rfl, _, rfl, ?_⟩
      refine stPlace R2 T fun H' kb R' => ?_
      refine ⟨⟨_, rfl⟩, _, rfl, _, p, acc.map (fun c => S [c]), rfl, rfl, .inl (SqL.of (by
        rw [kb p _ hp2 (Ne.symm nap), List.map_map] <;> rfl)), ?_, ?_⟩
      · rw [sum_one, List.length_map]
        show acc.length + acc.length * 0 ≤ 16777216
        have : MX = 16000000 := rfl
        omega
      · rw [lit_e, join_sg]
        exact k1 acc l' et H' (kb2.trans kb) R'
/-! ### read_atom -/
def spRAtom (K : PySem.W.Frag) : Sp := fun vs H Q E => ∃ (a : Addr) (L l : List Nat), vs = [.ref a] ∧ RdAt (CR K) H a L l ∧ L.length ≤ MX ∧ Res K a L H Q E (atomL l)
theorem scAt : FnScope ["self", "sign"] ["self"] (defScope sRAtom) := ⟨rfl, rfl, rfl, by decide +kernel, rfl, by decide +kernel, by decide +kernel⟩
theorem ok_atom {fd : FuncData} (F : FnM K "read_atom" "DataReader.read_atom" sRAtom fd) (IS : Is w K mg base CX0 1 (He.ma K (CR K) "sign") ["self"] (spSign K)) (IW : Is w K mg base (L2.CX PG w) 5 (He.ma K (CR K) "read_word") ["self"] (spRWord K))
    (IT : Is w K mg base (L2.CX PG w) 5 (He.ma K (CR K) "read_text") ["self"] (spRText K)) (IH : Is w K mg base (L2.CX PG w) 5 (He.ma K (CR K) "read_whole") ["self"] (spRWhole K)) (T : Txt PG w K mg) :
    FnOk PG w K mg base (L2.CX PG w) 6 (He.ma K (CR K) "read_atom") fd ["self"] (spRAtom K) := by
  obtain ⟨fdS, GS, bS⟩ := IS.ex
  obtain ⟨fdW, GW, bW⟩ := IW.ex
  obtain ⟨fdT, GT, bT⟩ := IT.ex
  obtain ⟨fdH, GH, bH⟩ := IH.ex
  have nd := scAt.nd
  refine F.ok scAt (fun vs H Q E h => ?_) (fun cdv A outer s H vs Q E hr h => ?_)
  · obtain ⟨a, L, r, rfl, _⟩ := h
    rfl
  · have pq : Passes (L2.CX PG w) (cxOf (L2.CX PG w) PG w K mg base ["self", "sign"] "DataReader.read_atom" (defScope sRAtom) (He.ma K (CR K) "read_atom") cdv A outer s H E) E := passes_call (takes_of rfl rfl rfl rfl) (fun _ _ _ _ h => h)
    refine ⟨_, pss_cons (ps_set (i := 1) nd rfl (Or.inl rfl) (pe_meth0 (pv 0) T.c_DataReader T.m_sign GS (hr.mono (by decide)) bS .nil pass0)) <|
      pss_cons (ps_if (pt_cmpR op_eq (pv 1) pe_str (nomark _)) (pss_one (ps_ret (pe_meth0 (pv 0) T.c_DataReader T.m_read_text GT hr bT .nil pq))) pss_nil) <|
      pss_cons (ps_if (PW.pt (pw_and (pt_cmpR op_ne (pv 1) pe_str (nomark _)) (pw_and1 (pt_cmpR op_in_sign (pv 1) pe_str rfl)))) (pss_one (ps_ret (pe_meth0 (pv 0) T.c_DataReader T.m_read_word GW hr bW .nil pq))) pss_nil) <|
      pss_one (ps_ret (pe_meth0 (pv 0) T.c_DataReader T.m_read_whole GH hr bH .nil pq)), ?_⟩
    obtain ⟨a, L, l, rfl, R, hL, k⟩ := h
    have hmet : ∀ {m : Str}, ¬ m = "place" → ¬ m = "text" → ∃ dx, H a = some (.ins (CR K) dx (flds (S L) (L.length - l.length))) ∧ (flds (S L) (L.length - l.length)).lookup m = none := fun h1 h2 => by
      obtain ⟨dx, h⟩ := R.at_
      exact ⟨dx, h, flds_no _ _ h1 h2⟩
    refine ⟨_, rfl, ?_⟩
    apply sgn R hL
    refine ⟨_, rfl, rfl, _, rfl, ?_⟩
    rw [lit_q]
    refine iteC (fun z => ?_) (fun z => ?_)
    · have hz := sg_eq.mp z
      cases l with
      | nil => cases hz
      | cons c r =>
        have hc : c = 34 := Option.some.inj hz
        subst hc
        obtain ⟨dx, h1, h2⟩ := hmet (m := "read_text") (by decide +kernel) (by decide +kernel)
        refine ⟨_, rfl, a, dx, _, rfl, h1, h2, a, L, r, rfl, R, hL, fun s l2 e H' kb R' => ?_, fun x e => k.2 x ?_⟩
        · exact k.1 (.str s) l2 (by show (textL r []).map D.str = _; rw [e] <;> rfl) _ H' kb R' (by unfold DAt; rfl)
        · show (textL r []).map D.str = _
          rw [e] <;> rfl
    · have h34 : l.head? ≠ some 34 := fun q => z (sg_eq.mpr q)
      refine ⟨_, rfl, rfl, _, rfl, ?_⟩
      rw [lit_e]
      have whole : atomL l = wholeL l → (∃ v, ([some (V.ref a), some (V.str (S (l.take 1)))] : L2.St)[0]? = some (some v) ∧ ∃ a' dx fs, v = .ref a' ∧ H a' = some (.ins (CR K) dx fs) ∧ fs.lookup ("read_whole" : Str) = none ∧ tNil ([some (V.ref a), some (V.str (S (l.take 1)))] : L2.St) H fun vs H2 => spRWhole K (v :: (vs ++ [])) H2 Q E) := fun e => by
        rw [e] at k
        obtain ⟨dx, h1, h2⟩ := hmet (m := "read_whole") (by decide +kernel) (by decide +kernel)
        exact ⟨_, rfl, a, dx, _, rfl, h1, h2, a, L, l, rfl, R, hL, k⟩
      cases l with
      | nil =>
        refine iteNC (fun q => absurd (sg_nil.mpr rfl) q) fun _ => iteF (whole rfl)
      | cons c r =>
        have hc34 : c ≠ 34 := fun q => h34 (by rw [q]; rfl)
        refine iteNC (fun _ => ?_) fun q => absurd (sg_nil.mp q) (List.cons_ne_nil _ _)
        refine ⟨_, rfl, c, _, rfl, rfl, _, rfl, ?_⟩
        rw [lit_ntf]
        have atc : atomL (c :: r) = (if c = 110 then (wordL wNone (c :: r)).map fun _ => D.non else if c = 116 then (wordL wTrue (c :: r)).map fun _ => D.bl true else if c = 102 then (wordL wFalse (c :: r)).map fun _ => D.bl false else wholeL (c :: r)) := by
          show (if c = 34 then _ else _) = _
          rw [if_neg hc34]
        obtain ⟨dx, h1, h2⟩ := hmet (m := "read_word") (by decide +kernel) (by decide +kernel)
        have word : ∀ W v d, WordOf c W v → atomL (c :: r) = (wordL W (c :: r)).map (fun _ => d) → (∀ H', DAt H' d v) → spRWord K [.ref a] H Q E := fun W v d hW e hd => by
          rw [e] at k
          refine ⟨a, L, c :: r, c, W, v, rfl, R, hL, rfl, hW, fun l2 e2 H' kb R' => ?_, fun x e2 => ?_⟩
          · exact k.1 d l2 (by rw [e2]; rfl) v H' kb R' (hd H')
          · exact k.2 x (by rw [e2]; rfl)
        refine iteC (fun q => ⟨_, rfl, a, dx, _, rfl, h1, h2, ?_⟩) (fun q => whole ?_)
        · have q : c = 110 ∨ c = 116 ∨ c = 102 := by simpa using q
          rcases q with rfl | rfl | rfl
          · exact word wNone .non .non (.inl ⟨rfl, rfl, rfl⟩) rfl fun H' => by unfold DAt; rfl
          · exact word wTrue (.bl true) (.bl true) (.inr (.inl ⟨rfl, rfl, rfl⟩)) rfl fun H' => by unfold DAt; rfl
          · exact word wFalse (.bl false) (.bl false) (.inr (.inr ⟨rfl, rfl, rfl⟩)) rfl fun H' => by unfold DAt; rfl
        · have q : ¬ (c = 110 ∨ c = 116 ∨ c = 102) := by simpa using q
          rw [atc, if_neg (fun z => q (.inl z)), if_neg (fun z => q (.inr (.inl z))), if_neg (fun z => q (.inr (.inr z)))]
end
end K80

set_option Elab.async false
set_option linter.all false
set_option maxRecDepth 100000
set_option maxHeartbeats 4000000
/-! M2: every reader of signs that ends well has taken a sign. -/
namespace DD
open PySem L2
theorem wordL_len : ∀ {W l l2 : List Nat} {u : Unit}, wordL W l = .ok u l2 → l2.length + W.length = l.length
  | [], l, l2, u, h => by
    unfold wordL at h
    injection h with _ h
    rw [h] <;> rfl
  | c :: W, [], l2, u, h => by
    unfold wordL at h
    cases h
  | c :: W, d :: l, l2, u, h => by
    unfold wordL at h
    by_cases e : d = c
    · rw [if_pos e] at h
      have := wordL_len h
      rw [List.length_cons, List.length_cons]
      omega
    · rw [if_neg e] at h
      cases h
theorem textL_lt : ∀ {l acc s l2 : List Nat}, textL l acc = .ok s l2 → l2.length < l.length
  | [], acc, s, l2, h => by
    rw [textL.eq_def] at h
    cases h
  | [c], acc, s, l2, h => by
    rw [textL.eq_def] at h
    dsimp only at h
    split at h
    · injection h with _ h
      rw [← h]
      exact Nat.zero_lt_succ _
    · split at h
      · cases h
      · split at h
        · cases h
        · rw [textL.eq_def] at h
          cases h
  | c :: e :: r2, acc, s, l2, h => by
    rw [textL.eq_def] at h
    dsimp only at h
    split at h
    · injection h with _ h
      rw [← h]
      exact Nat.lt_succ_self _
    · split at h
      · cases h
      · split at h
        · split at h
          · have := textL_lt h
            rw [List.length_cons, List.length_cons]
            omega
          · cases h
        · have := textL_lt h
          simp only [List.length_cons] at this ⊢
          omega
theorem dropWhile_le (p : Nat → Bool) : ∀ l : List Nat, (l.dropWhile p).length ≤ l.length
  | [] => Nat.le_refl _
  | c :: r => by
    rw [List.dropWhile_cons]
    split
    · have := dropWhile_le p r
      rw [List.length_cons]
      omega
    · exact Nat.le_refl _
theorem wholeAt_lt {b : Bool} {l l1 l2 : List Nat} {d : D} (h : wholeAt b l l1 = .ok d l2) : l2.length < l1.length := by
  cases l1 with
  | nil => cases h
  | cons c r =>
    unfold wholeAt at h
    dsimp only at h
    split at h
    · cases h
    · rename_i h0
      split at h
      · cases h
      · split at h
        · cases h
        · injection h with _ h
          have hd : isDig c = true := by
            cases q : isDig c with
            | true => rfl
            | false => exact absurd (Or.inl q) h0
          rw [← h, List.dropWhile_cons, hd, if_pos rfl]
          have := dropWhile_le isDig r
          rw [List.length_cons]
          omega
theorem wholeL_lt {l l2 : List Nat} {d : D} (h : wholeL l = .ok d l2) : l2.length < l.length := by
  cases l with
  | nil => exact wholeAt_lt (b := false) (l := []) h
  | cons c r =>
    unfold wholeL at h
    dsimp only at h
    split at h
    · have := wholeAt_lt h
      rw [List.length_cons]
      omega
    · exact wholeAt_lt h
theorem map_ok {α β : Type} {f : α → β} {r : Rs α} {b : β} {l : List Nat} (h : r.map f = .ok b l) : ∃ a, r = .ok a l ∧ b = f a := by
  cases r with
  | ok a l' =>
    injection h with h1 h2
    exact ⟨a, by rw [h2], h1.symm⟩
  | bad l' => cases h
theorem atomL_lt {l l2 : List Nat} {d : D} (h : atomL l = .ok d l2) : l2.length < l.length := by
  cases l with
  | nil => exact wholeL_lt h
  | cons c r =>
    unfold atomL at h
    dsimp only at h
    split at h
    · obtain ⟨s, e, _⟩ := map_ok h
      have := textL_lt e
      rw [List.length_cons]
      omega
    · have word : ∀ W : List Nat, W.length = 4 ∨ W.length = 5 → ∀ d' : D, (wordL W (c :: r)).map (fun _ => d') = .ok d l2 → l2.length < (c :: r).length := fun W hW d' e => by
        obtain ⟨s, e, _⟩ := map_ok e
        have := wordL_len e
        omega
      split at h
      · exact word _ (.inl rfl) _ h
      · split at h
        · exact word _ (.inl rfl) _ h
        · split at h
          · exact word _ (.inr rfl) _ h
          · exact wholeL_lt h
theorem partsL_le {rd : List Nat → Rs D} (hr : ∀ l d l2, rd l = .ok d l2 → l2.length < l.length) : ∀ {f : Nat} {l l2 : List Nat} {acc : List D} {d : D}, partsL rd f l acc = .ok d l2 → l2.length < l.length
  | 0, l, l2, acc, d, h => by
    unfold partsL at h
    cases h
  | f + 1, l, l2, acc, d, h => by
    unfold partsL at h
    split at h
    · rename_i h1
      injection h with _ h
      cases l with
      | nil => cases h1
      | cons c r =>
        rw [← h]
        exact Nat.lt_succ_self _
    · split at h
      · cases h
      · split at h
        · rename_i e
          have h1 := hr _ _ _ e
          have h2 := partsL_le hr h
          have h3 : (if acc = [] then l else l.tail).length ≤ l.length := by
            split
            · exact Nat.le_refl _
            · rw [List.length_tail]
              omega
          omega
        · cases h
theorem nestL_lt : ∀ {k : Nat} {l l2 : List Nat} {d : D}, nestL k l = .ok d l2 → l2.length < l.length
  | 0, l, l2, d, h => by
    unfold nestL at h
    split at h
    · cases h
    · exact atomL_lt h
  | k + 1, l, l2, d, h => by
    unfold nestL at h
    split at h
    · have := partsL_le (fun _ _ _ e => nestL_lt (k := k) e) h
      rw [List.length_tail] at this
      omega
    · exact atomL_lt h
end DD

set_option Elab.async false
set_option linter.all false
set_option maxRecDepth 100000
set_option maxHeartbeats 4000000
/-! W6: DataReader's read_nested; read_data. -/
namespace K80
open PySem PySem.Spec PyProof.Rows L2 DD
theorem lit_op : ("(" : Str) = S [40] := by decide +kernel
theorem lit_cl : (")" : Str) = S [41] := by decide +kernel
section
variable {w : World} {K : PySem.W.Frag} {mg : Str → Option Value} {base : Heap}
def spRN (K : PySem.W.Frag) (k : Nat) : Sp := fun vs H Q E => ∃ (a : Addr) (L l : List Nat), vs = [.ref a, .int ((24 : Int) - (k : Int))] ∧ RdAt (CR K) H a L l ∧ L.length ≤ MX ∧ Res K a L H Q E (nestL k l)
theorem scN : FnScope ["self", "depth", "parts"] ["self", "depth"] (defScope sRNested) := ⟨rfl, rfl, rfl, by decide +kernel, rfl, by decide +kernel, by decide +kernel⟩
theorem meth_at {H : Hp} {a : Addr} {L l : List Nat} (R : RdAt (CR K) H a L l) {m : Str} (h1 : ¬ m = "place") (h2 : ¬ m = "text") : ∃ dx fs, H a = some (.ins (CR K) dx fs) ∧ fs.lookup m = none := by
  obtain ⟨dx, h⟩ := R.at_
  exact ⟨dx, _, h, flds_no _ _ h1 h2⟩
theorem ok_nest0 {fd : FuncData} (F : FnM K "read_nested" "DataReader.read_nested" sRNested fd) (IS : Is w K mg base CX0 1 (He.ma K (CR K) "sign") ["self"] (spSign K)) (IR : Is w K mg base (L2.CX PG w) 3 (He.ma K (CR K) "refuse") ["self"] (spRefuse K))
    (IA : Is w K mg base (L2.CX PG w) 6 (He.ma K (CR K) "read_atom") ["self"] (spRAtom K)) (T : Txt PG w K mg) : FnOk PG w K mg base (L2.CX PG w) 7 (He.ma K (CR K) "read_nested") fd ["self", "depth"] (spRN K 0) := by
  obtain ⟨fdS, GS, bS⟩ := IS.ex
  obtain ⟨fdR, GR, bR⟩ := IR.ex
  obtain ⟨fdA, GA, bA⟩ := IA.ex
  obtain ⟨tD, hD⟩ := T.i_DATA_DEPTH
  have nd := scN.nd
  refine F.ok scN (fun vs H Q E h => ?_) (fun cdv A outer s H vs Q E hr h => ?_)
  · obtain ⟨a, L, r, rfl, _⟩ := h
    rfl
  · have pq : Passes (L2.CX PG w) (cxOf (L2.CX PG w) PG w K mg base ["self", "depth", "parts"] "DataReader.read_nested" (defScope sRNested) (He.ma K (CR K) "read_nested") cdv A outer s H E) E := passes_call (takes_of rfl rfl rfl rfl) (fun _ _ _ _ h => h)
    refine ⟨_, pss_cons (ps_if (pt_cmpR op_ne (pe_meth0 (pv 0) T.c_DataReader T.m_sign GS (hr.mono (by decide)) bS .nil pass0) pe_str (nomark _)) (pss_one (ps_ret (pe_meth0 (pv 0) T.c_DataReader T.m_read_atom GA hr bA .nil pq))) pss_nil) <|
      pss_cons (ps_if (pt_cmpR op_ge (pv 1) (pe_glob (v := .int 24) rfl hD ⟨_, rfl⟩) (nomark _)) (pss_one (ps_expr (pe_meth0 (pv 0) T.c_DataReader T.m_refuse GR (hr.mono (by decide)) bR .nil pq))) pss_nil) pss_never, ?_⟩
    obtain ⟨a, L, l, rfl, R, hL, k⟩ := h
    refine ⟨_, rfl, ?_⟩
    apply sgn R hL
    refine ⟨rfl, _, rfl, ?_⟩
    rw [lit_op]
    unfold nestL at k
    refine iteNC (fun z => ?_) (fun z => ?_)
    · rw [if_neg (fun q => z (sg_eq.mpr q))] at k
      obtain ⟨dx, fs, h1, h2⟩ := meth_at R (m := "read_atom") (by decide +kernel) (by decide +kernel)
      exact ⟨_, rfl, a, dx, fs, rfl, h1, h2, a, L, l, rfl, R, hL, k⟩
    · rw [if_pos (sg_eq.mp z)] at k
      refine ⟨_, rfl, _, _, rfl, rfl, _, rfl, ?_⟩
      refine iteC (fun _ => ⟨_, rfl, ?_⟩) (fun q => absurd (by decide) q)
      exact refu R hL (k.2 l rfl)
theorem ok_nestS {fd : FuncData} {k : Nat} (F : FnM K "read_nested" "DataReader.read_nested" sRNested fd) (IS : Is w K mg base CX0 1 (He.ma K (CR K) "sign") ["self"] (spSign K)) (IR : Is w K mg base (L2.CX PG w) 3 (He.ma K (CR K) "refuse") ["self"] (spRefuse K))
    (IE : Is w K mg base (L2.CX PG w) 4 (He.ma K (CR K) "expect") ["self", "sign"] (spExpect K))
    (IA : Is w K mg base (L2.CX PG w) 6 (He.ma K (CR K) "read_atom") ["self"] (spRAtom K)) (T : Txt PG w K mg) (hk : k < 24)
    (IN : FnOk PG w K mg base (L2.CX PG w) (7 + k) (He.ma K (CR K) "read_nested") fd ["self", "depth"] (spRN K k)) : FnOk PG w K mg base (L2.CX PG w) (7 + k + 1) (He.ma K (CR K) "read_nested") fd ["self", "depth"] (spRN K (k + 1)) := by
  obtain ⟨fdS, GS, bS⟩ := IS.ex
  obtain ⟨fdR, GR, bR⟩ := IR.ex
  obtain ⟨fdE, GE, bE⟩ := IE.ex
  obtain ⟨fdA, GA, bA⟩ := IA.ex
  have bN : Binds K fd ["self", "depth"] [] := F.bindsN fun _ _ _ _ _ _ us hl => match us, hl with | [_, _], _ => rfl
  obtain ⟨tD, hD⟩ := T.i_DATA_DEPTH
  have nd := scN.nd
  refine F.ok scN (fun vs H Q E h => ?_) (fun cdv A outer s H vs Q E hr h => ?_)
  · obtain ⟨a, L, r, rfl, _⟩ := h
    rfl
  · have pq : Passes (L2.CX PG w) (cxOf (L2.CX PG w) PG w K mg base ["self", "depth", "parts"] "DataReader.read_nested" (defScope sRNested) (He.ma K (CR K) "read_nested") cdv A outer s H E) E := passes_call (takes_of rfl rfl rfl rfl) (fun _ _ _ _ h => h)
    refine ⟨_, pss_cons (ps_if (pt_cmpR op_ne (pe_meth0 (pv 0) T.c_DataReader T.m_sign GS (hr.mono (by omega)) bS .nil pass0) pe_str (nomark _)) (pss_one (ps_ret (pe_meth0 (pv 0) T.c_DataReader T.m_read_atom GA (hr.mono (by omega)) bA .nil pq))) pss_nil) <|
      pss_cons (ps_if (pt_cmpR op_ge (pv 1) (pe_glob (v := .int 24) rfl hD ⟨_, rfl⟩) (nomark _)) (pss_one (ps_expr (pe_meth0 (pv 0) T.c_DataReader T.m_refuse GR (hr.mono (by omega)) bR .nil pq))) pss_nil) <|
      pss_cons (ps_fld (pv 0) (pe_op op_add (pe_fld (pv 0) rfl) pe_int) rfl) <|
      pss_cons (ps_set (i := 2) nd rfl (Or.inl rfl) (pe_lst pa_nil)) <|
      C8.pss_cut (ps_while (passes_of rfl) (pt_cmpR op_ne (pe_meth0 (pv 0) T.c_DataReader T.m_sign GS (hr.mono (by omega)) bS .nil pass0) pe_str (nomark _))
        (C8.pss_cut (ps_if (pt_truth (pv 2) (by intro _; rfl)) (pss_one (ps_expr (pe_meth (pv 0) T.c_DataReader T.m_expect GE (hr.mono (by omega)) bE .nil pq (pa_cons pe_str pa_nil)))) pss_nil) <|
         pss_one (ps_expr (pe_bm PySem.F.plainAttrs_list PySem.F.slot_list_append PySem.F.type_list_append mt_append (pv 2) (pa_cons (pe_meth (pv 0) T.c_DataReader T.m_read_nested IN hr bN .nil pq (pa_cons (pe_op op_add (pv 1) pe_int) pa_nil)) pa_nil))))) <|
      pss_cons (ps_fld (pv 0) (pe_op op_add (pe_fld (pv 0) rfl) pe_int) rfl) <|
      pss_one (ps_ret (pe_callTy call_tuple_of rfl T.n_tuple (by decide +kernel) (pa_cons (pv 2) pa_nil))), ?_⟩
    obtain ⟨a, L, l, rfl, R, hL, k'⟩ := h
    refine ⟨_, rfl, ?_⟩
    apply sgn R hL
    refine ⟨rfl, _, rfl, ?_⟩
    rw [lit_op]
    unfold nestL at k'
    refine iteNC (fun z => ?_) (fun z => ?_)
    · rw [if_neg (fun q => z (sg_eq.mpr q))] at k'
      obtain ⟨dx, fs, h1, h2⟩ := meth_at R (m := "read_atom") (by decide +kernel) (by decide +kernel)
      exact ⟨_, rfl, a, dx, fs, rfl, h1, h2, a, L, l, rfl, R, hL, k'⟩
    · rw [if_pos (sg_eq.mp z)] at k'
      refine ⟨_, rfl, _, _, rfl, rfl, _, rfl, ?_⟩
      refine iteC (fun q => absurd q (by omega)) (fun _ => ?_)
      cases l with
      | nil => exact absurd (sg_eq.mp z) (by intro q; cases q)
      | cons c r =>
        have hlL := R.le
        refine ⟨_, rfl, ?_⟩
        apply rdPlace R T
        refine ⟨_, _, rfl, rfl, _, rfl, ?_⟩
        refine stPlace R T fun H1 kb1 R1 => ?_
        refine ⟨Nat.zero_le _, fun p np => ?_⟩
        have np0 : H p = none := kb1.free (R1.at_.choose_spec) np
        have nap : a ≠ p := R1.ne np
        have hc0 : (c :: r).head? = some 40 := sg_eq.mp z
        replace k' : Res K a L H Q E (partsL (nestL k) ((c :: r).length + 1) r []) := k'
        generalize hW : partsL (nestL k) ((c :: r).length + 1) r [] = W at k'
        have tupsp : ∀ {H' : Hp} {xs ys : List V}, H' p = some (.lst xs) → ∀ b zs, H' b = some (.tup zs) → upd H' p (.lst ys) b = some (.tup zs) := fun {H' xs ys} hp b zs e => by
          rw [upd_ne]
          · exact e
          · rintro rfl
            rw [hp] at e
            cases e
        refine ⟨fun σ H' => ∃ accD vs l', σ = [some (.ref a), some (.int ((24 : Int) - ((k + 1 : Nat) : Int))), some (.ref p)] ∧ KeepB H H' a ∧ RdAt (CR K) H' a L (41 :: l') ∧ H' p = some (.lst vs) ∧ DAts H' accD vs ∧ W = .ok (.tup accD) l', ?_, ?_⟩
        · refine ⟨fun m σ H' => ∃ accD vs l' f, σ = [some (.ref a), some (.int ((24 : Int) - ((k + 1 : Nat) : Int))), some (.ref p)] ∧ m = l'.length ∧ KeepB H H' a ∧ RdAt (CR K) H' a L l' ∧ H' p = some (.lst vs) ∧ DAts H' accD vs ∧ W = partsL (nestL k) f l' accD ∧ l'.length < f ∧ accD.length + l'.length ≤ L.length,
            ⟨_, [], [], r, _, rfl, rfl, kb1.new np0, R1.upd nap, upd_same, DAts.nil, hW.symm, by simp only [List.length_cons]; omega, by simp only [List.length_cons, List.length_nil] at hlL ⊢; omega⟩, ?_⟩
          rintro m _ H2 ⟨accD, vs, l', f, rfl, rfl, kb2, R2, hp2, hds, et, hf, hlen⟩
          obtain ⟨f, rfl⟩ : ∃ f', f = f' + 1 := ⟨f - 1, by omega⟩
          have hvl := hds.length
          refine ⟨_, rfl, ?_⟩
          apply sgn R2 hL
          refine ⟨rfl, _, rfl, ?_⟩
          rw [lit_cl]
          refine iteNC (fun h41 => ?_) (fun h41 => ?_)
          · have hne : l'.head? ≠ some 41 := fun q => h41 (sg_eq.mpr q)
            rw [partsL, if_neg hne] at et
            refine ⟨fun σ' H' => ∃ accD vs l2 f, σ' = [some (.ref a), some (.int ((24 : Int) - ((k + 1 : Nat) : Int))), some (.ref p)] ∧ l2.length < l'.length ∧ KeepB H H' a ∧ RdAt (CR K) H' a L l2 ∧ H' p = some (.lst vs) ∧ DAts H' accD vs ∧ W = partsL (nestL k) f l2 accD ∧ l2.length < f ∧ accD.length + l2.length ≤ L.length,
              fun σ' H' ⟨accD, vs, l2, f, h1, h2, h3⟩ => ⟨_, h2, accD, vs, l2, f, h1, rfl, h3⟩, ?_⟩
            refine ⟨fun σ' H' => σ' = [some (.ref a), some (.int ((24 : Int) - ((k + 1 : Nat) : Int))), some (.ref p)] ∧ KeepB H2 H' a ∧ ¬ (accD ≠ [] ∧ l'.head? ≠ some 32) ∧ RdAt (CR K) H' a L (if accD = [] then l' else l'.tail), ?_, ?_⟩
            · refine ⟨_, rfl, _, .inl ⟨vs, SqL.of hp2, rfl⟩, ?_⟩
              cases vs with
              | nil =>
                have e0 : accD = [] := by
                  cases accD with
                  | nil => rfl
                  | cons d ds => simp at hvl
                refine iteF ⟨rfl, KeepB.refl, fun q => q.1 e0, ?_⟩
                rw [if_pos e0]
                exact R2
              | cons v0 vr =>
                have e0 : accD ≠ [] := by
                  rintro rfl
                  simp at hvl
                obtain ⟨dx, fs, h1, h2⟩ := meth_at R2 (m := "expect") (by decide +kernel) (by decide +kernel)
                refine iteT ⟨_, rfl, a, dx, fs, rfl, h1, h2, a, L, l', 32, rfl, R2, hL, fun hh H3 kb3 R3 => ⟨rfl, kb3, fun q => q.2 hh, ?_⟩, fun hh => ?_⟩
                · rw [if_neg e0]
                  exact R3
                · refine (k'.2 l' ?_).up kb2
                  rw [et, if_pos ⟨e0, hh⟩]
            · rintro _ H3 ⟨rfl, kb3, hn, R3⟩
              rw [if_neg hn] at et
              have hp3 := kb3 p _ hp2 (Ne.symm nap)
              have hds3 := DAts.keep R2 kb3 hds
              obtain ⟨dx, fs, h1, h2⟩ := meth_at R3 (m := "read_nested") (by decide +kernel) (by decide +kernel)
              have hlb : (if accD = [] then l' else l'.tail).length ≤ l'.length := by
                split
                · exact Nat.le_refl _
                · rw [List.length_tail]; omega
              refine ⟨_, rfl, .inl ⟨rfl, _, SqL.of hp3⟩, ?_⟩
              refine ⟨_, rfl, a, dx, fs, rfl, h1, h2, _, rfl, _, _, rfl, rfl, a, L, _, ?_, R3, hL, ?_, ?_⟩
              · show [V.ref a, V.int ((24 : Int) - ((k + 1 : Nat) : Int) + 1)] = [V.ref a, V.int ((24 : Int) - (k : Int))]
                have : (24 : Int) - ((k + 1 : Nat) : Int) + 1 = (24 : Int) - (k : Int) := by omega
                rw [this]
              · intro d l2 ed v H4 kb4 R4 hd
                have hlt := nestL_lt ed
                have hp4 := kb4 p _ hp3 (Ne.symm nap)
                rw [ed] at et
                refine ⟨p, vs, v, rfl, rfl, hp4, by have := mx_line; omega, ?_⟩
                refine ⟨accD ++ [d], vs ++ [v], l2, f, rfl, by omega, KeepB.new ((kb2.trans kb3).trans kb4) np0, R4.upd nap, upd_same, ?_, et, by omega, ?_⟩
                · exact DAts.mono (tupsp hp4) (DAts.snoc (DAts.keep R3 kb4 hds3) hd)
                · rw [List.length_append, List.length_singleton]
                  omega
              · intro x ex
                rw [ex] at et
                exact (k'.2 x et).up (kb2.trans kb3)
          · have h41' := sg_eq.mp h41
            cases l' with
            | nil => cases h41'
            | cons c' t =>
              have hc : c' = 41 := Option.some.inj h41'
              subst hc
              rw [partsL, if_pos h41'] at et
              exact ⟨accD, vs, t, rfl, kb2, R2, hp2, hds, et⟩
        · rintro _ H2 ⟨accD, vs, l', rfl, kb2, R2, hp2, hds, et⟩
          refine ⟨_, rfl, ?_⟩
          apply rdPlace R2 T
          refine ⟨_, _, rfl, rfl, _, rfl, ?_⟩
          refine stPlace R2 T fun H3 kb3 R3 => ?_
          have hp3 := kb3 p _ hp2 (Ne.symm nap)
          refine ⟨_, rfl, p, vs, rfl, .inl ⟨SqL.of hp3, fun q nq => ?_⟩⟩
          have kb4 := kb2.trans kb3
          have nq0 : H q = none := kb4.free (R3.at_.choose_spec) nq
          refine k'.1 _ l' et _ _ (kb4.new nq0) (R3.upd (R3.ne nq)) ?_
          unfold DAt
          refine ⟨q, vs, rfl, upd_same, DAts.mono (fun b xs e => ?_) (DAts.keep R2 kb3 hds)⟩
          rw [upd_ne (ne_of_none e nq)]
          exact e
end
end K80

set_option Elab.async false
set_option linter.all false
set_option maxRecDepth 100000
set_option maxHeartbeats 4000000
/-! W7: read_data. -/
namespace K80
open PySem PySem.Spec PyProof.Rows L2 DD
section
variable {w : World} {K : PySem.W.Frag} {mg : Str → Option Value} {base : Heap}
/-- the defs of the reader -/
structure Rdr (K : PySem.W.Frag) : Prop where
  init : ∃ fd, FnM K "__init__" "DataReader.__init__" sInit fd
  sign : ∃ fd, FnM K "sign" "DataReader.sign" sSign fd
  refuse : ∃ fd, FnM K "refuse" "DataReader.refuse" sRefuse fd
  expect : ∃ fd, FnM K "expect" "DataReader.expect" sExpect fd
  word : ∃ fd, FnM K "read_word" "DataReader.read_word" sRWord fd
  whole : ∃ fd, FnM K "read_whole" "DataReader.read_whole" sRWhole fd
  text : ∃ fd, FnM K "read_text" "DataReader.read_text" sRText fd
  atom : ∃ fd, FnM K "read_atom" "DataReader.read_atom" sRAtom fd
  nested : ∃ fd, FnM K "read_nested" "DataReader.read_nested" sRNested fd
  read : ∃ fd, FnG K "read_data" sRead fd
theorem is_nest (r : Rdr K) (T : Txt PG w K mg) (c : He.SaysQ fa fn fc ts ex file w K) : Is w K mg base (L2.CX PG w) 31 (He.ma K (CR K) "read_nested") ["self", "depth"] (spRN K 24) := by
  obtain ⟨f1, F1⟩ := r.sign
  obtain ⟨f2, F2⟩ := r.refuse
  obtain ⟨f3, F3⟩ := r.expect
  obtain ⟨f4, F4⟩ := r.word
  obtain ⟨f5, F5⟩ := r.whole
  obtain ⟨f6, F6⟩ := r.text
  obtain ⟨f7, F7⟩ := r.atom
  obtain ⟨f8, F8⟩ := r.nested
  have i1 := is_sign (base := base) F1 T
  have i2 := is_refuse (base := base) F2 T c
  have i3 := is_expect (base := base) F3 F1 F2 T c
  have i4 : Is w K mg base (L2.CX PG w) 5 (He.ma K (CR K) "read_word") ["self"] (spRWord K) := ⟨_, ok_word F4 i1 i3 T, F4.bindsN fun _ _ _ _ _ _ us hl => match us, hl with | [_], _ => rfl⟩
  have i5 : Is w K mg base (L2.CX PG w) 5 (He.ma K (CR K) "read_whole") ["self"] (spRWhole K) := ⟨_, ok_whole F5 i1 i2 T c, F5.bindsN fun _ _ _ _ _ _ us hl => match us, hl with | [_], _ => rfl⟩
  have i6 : Is w K mg base (L2.CX PG w) 5 (He.ma K (CR K) "read_text") ["self"] (spRText K) := ⟨_, ok_text F6 i1 i2 i3 T, F6.bindsN fun _ _ _ _ _ _ us hl => match us, hl with | [_], _ => rfl⟩
  have i7 : Is w K mg base (L2.CX PG w) 6 (He.ma K (CR K) "read_atom") ["self"] (spRAtom K) := ⟨_, ok_atom F7 i1 i4 i6 i5 T, F7.bindsN fun _ _ _ _ _ _ us hl => match us, hl with | [_], _ => rfl⟩
  have go : ∀ k, k ≤ 24 → FnOk PG w K mg base (L2.CX PG w) (7 + k) (He.ma K (CR K) "read_nested") f8 ["self", "depth"] (spRN K k) := fun k => by
    induction k with
    | zero => exact fun _ => ok_nest0 F8 i1 i2 i7 T
    | succ k ih => exact fun h => ok_nestS F8 i1 i2 i3 i7 T (by omega) (ih (by omega))
  exact ⟨_, go 24 (Nat.le_refl _), F8.bindsN fun _ _ _ _ _ _ us hl => match us, hl with | [_, _], _ => rfl⟩
def spRead (K : PySem.W.Frag) : Sp := fun vs H Q E => ∃ L : List Nat, vs = [.str (S L)] ∧ L.length ≤ MX ∧ (∀ d, readL L = .ok d [] → ∀ v H', Same H H' → DAt H' d v → Q v H') ∧
  (∀ x, readL L = .bad x → ∀ d H', Same H H' → H' d = some (.xd [("place", .int ((L.length - x.length : Nat) : Int))]) → E (.ref (CB K)) (some d) H')
theorem scRd : FnScope ["text", "reader", "value"] ["text"] (defScope sRead) := ⟨rfl, rfl, rfl, by decide +kernel, rfl, by decide +kernel, by decide +kernel⟩
theorem ok_read (r : Rdr K) {fd : FuncData} (F : FnG K "read_data" sRead fd) (T : Txt PG w K mg) (c : He.SaysQ fa fn fc ts ex file w K) : FnOk PG w K mg base (L2.CX PG w) 32 (He.ga K "read_data") fd ["text"] (spRead K) := by
  obtain ⟨f0, F0⟩ := r.init
  have G0 := ok_init (base := base) F0 T
  have b0 : Binds K f0 ["self", "text"] [] := F0.bindsN fun _ _ _ _ _ _ us hl => match us, hl with | [_, _], _ => rfl
  obtain ⟨fdN, GN, bN⟩ := (is_nest (base := base) r T c).ex
  obtain ⟨fdI, GI, bI⟩ := ok_badI (base := base) T c
  have nd := scRd.nd
  refine F.ok scRd (fun vs H Q E h => ?_) (fun cdv A outer s H vs Q E hr h => ?_)
  · obtain ⟨L, rfl, _⟩ := h
    rfl
  · have pq : Passes (L2.CX PG w) (cxOf (L2.CX PG w) PG w K mg base ["text", "reader", "value"] "read_data" (defScope sRead) (He.ga K "read_data") cdv A outer s H E) E := passes_call (takes_of rfl rfl rfl rfl) (fun _ _ _ _ h => h)
    refine ⟨_, pss_cons (ps_set (i := 1) nd rfl (Or.inl rfl) (pe_make T.k_DataReader G0 (hr.mono (by decide)) rfl T.g_DataReader b0 .nil pass0 (pa_cons (pv 0) pa_nil))) <|
      pss_cons (ps_set (i := 2) nd rfl (Or.inl rfl) (pe_meth (pv 1) T.c_DataReader T.m_read_nested GN hr bN .nil pq (pa_cons pe_int pa_nil))) <|
      pss_cons (ps_if (pt_cmpR op_lt (pe_fld (pv 1) rfl) (pe_callB call_len_str (by rfl) T.n_len boot_len (pa_cons (pv 0) pa_nil)) (nomark _))
        (pss_one (ps_raise rfl (takes_of rfl rfl rfl rfl) (pmk_oex T.oB T.iB T.tyB GI (hr.mono (by decide)) bI .nil pass0 rfl T.g_BadData (pa_cons (pe_fld (pv 1) rfl) pa_nil)))) pss_nil) <|
      pss_one (ps_ret (pv 2)), ?_⟩
    obtain ⟨L, rfl, hL, k1, k2⟩ := h
    refine ⟨_, rfl, fun a dx na ndx ne => ?_⟩
    refine ⟨a, dx, L, rfl, upd_same, fun H1 kb1 R1 => ⟨rfl, ?_⟩⟩
    have sm : ∀ {H' : Hp}, KeepB H1 H' a → Same H H' := fun {H'} kb b o e => by
      have hb : b ≠ a := ne_of_none e na
      refine kb b o (kb1 b o ?_ hb) hb
      rw [upd_ne hb, upd_ne (ne_of_none e ndx)]
      exact e
    obtain ⟨dx', fs, h1, h2⟩ := meth_at R1 (m := "read_nested") (by decide +kernel) (by decide +kernel)
    refine ⟨_, rfl, a, dx', fs, rfl, h1, h2, a, L, L, rfl, R1, hL, ?_, ?_⟩
    · intro d l2 ed v H2 kb2 R2 hd
      refine ⟨_, rfl, ?_⟩
      apply rdPlace R2 T
      refine ⟨_, rfl, S L, rfl, (by rw [SX.S_len]; exact Nat.le_trans hL mx_line), _, _, rfl, rfl, _, rfl, ?_⟩
      rw [SX.S_len]
      have hl2 := R2.le
      unfold readL at k1 k2
      rw [ed] at k1 k2
      cases l2 with
      | nil =>
        refine iteC (fun q => absurd q (by simp)) (fun _ => ?_)
        exact ⟨_, rfl, k1 d rfl v H2 (sm kb2) hd⟩
      | cons c t =>
        refine iteC (fun _ => ?_) (fun q => absurd (by simp only [List.length_cons] at hl2 ⊢; omega) q)
        refine ⟨_, rfl, ?_⟩
        apply rdPlace R2 T
        refine ⟨(by show 1 ≤ 1000; decide), fun x nx => ?_⟩
        refine raise_bad (mx_log _ (by omega)) nx (fun d' H' s n e => k2 (c :: t) rfl d' H' (fun b o q => s b o (sm kb2 b o q)) e)
    · intro x ex d' H' kb e
      unfold readL at k2
      rw [ex] at k2
      exact k2 x rfl d' H' (sm kb) e
end
end K80

set_option Elab.async false
set_option linter.all false
set_option maxRecDepth 100000
set_option maxHeartbeats 4000000
/-! M3: the writer as a plain function. -/
namespace DD
open PySem L2 PySem.StrLaws
/-- what the writer gives: a thing, or the bound that it meets -/
inductive Wr (α : Type) where
  | ok (t : α)
  | fig
  | dep
/-- a number of at most 1500 figures -/
def fitsI (i : Int) : Bool := decide (i.natAbs < 10 ^ 1500)
mutual
def wr : Nat → D → Wr (List Nat)
  | 0, .tup _ => .dep
  | k + 1, .tup l => match wrs k l with
    | .ok ts => .ok (40 :: (sepL ts ++ [41]))
    | .fig => .fig
    | .dep => .dep
  | _, .int i => if fitsI i = true then .ok (numL i) else .fig
  | _, .non => .ok wNone
  | _, .bl true => .ok wTrue
  | _, .bl false => .ok wFalse
  | _, .str s => .ok (34 :: (esc s ++ [34]))
def wrs : Nat → List D → Wr (List (List Nat))
  | _, [] => .ok []
  | k, d :: r => match wr k d with
    | .fig => .fig
    | .dep => .dep
    | .ok t => match wrs k r with
      | .ok ts => .ok (t :: ts)
      | .fig => .fig
      | .dep => .dep
end
theorem wr_int (k : Nat) (i : Int) : wr k (.int i) = if fitsI i = true then .ok (numL i) else .fig := by cases k <;> rw [wr.eq_def]
theorem wr_non (k : Nat) : wr k .non = .ok wNone := by cases k <;> rw [wr.eq_def]
theorem wr_tt (k : Nat) : wr k (.bl true) = .ok wTrue := by cases k <;> rw [wr.eq_def]
theorem wr_ff (k : Nat) : wr k (.bl false) = .ok wFalse := by cases k <;> rw [wr.eq_def]
theorem wr_str (k : Nat) (s : List Nat) : wr k (.str s) = .ok (34 :: (esc s ++ [34])) := by cases k <;> rw [wr.eq_def]
theorem wr_tup0 (l : List D) : wr 0 (.tup l) = .dep := by rw [wr.eq_def]
theorem wr_tupS (k : Nat) (l : List D) : wr (k + 1) (.tup l) = (match wrs k l with | .ok ts => .ok (40 :: (sepL ts ++ [41])) | .fig => .fig | .dep => .dep) := by rw [wr.eq_def]
mutual
/-- all that is written keeps within what the walk can show -/
def DB : D → Prop
  | .non => True
  | .bl _ => True
  | .int i => i.natAbs < 10 ^ 4300
  | .str s => s.length ≤ 5000
  | .tup l => DBs l
def DBs : List D → Prop
  | [] => True
  | d :: r => DB d ∧ DBs r
end
theorem DBs.get : ∀ {l : List D} {i : Nat} {d : D}, DBs l → l[i]? = some d → DB d
  | [], i, d, _, e => by simp at e
  | x :: r, 0, d, h, e => by
    unfold DBs at h
    simp at e
    rw [← e]
    exact h.1
  | x :: r, i + 1, d, h, e => by
    unfold DBs at h
    exact DBs.get h.2 (by simpa using e)
theorem sepL_len : ∀ ts : List (List Nat), ∀ t ∈ ts, t.length ≤ (sepL ts).length
  | [], t, h => by cases h
  | [x], t, h => by
    rw [List.mem_singleton] at h
    rw [h] <;> exact Nat.le_refl _
  | x :: y :: r, t, h => by
    have e : (sepL (x :: y :: r)).length = x.length + ((sepL (y :: r)).length + 1) := by
      show (x ++ 32 :: sepL (y :: r)).length = _
      rw [List.length_append, List.length_cons]
    rw [e]
    rcases List.mem_cons.mp h with h | h
    · rw [h]; omega
    · have := sepL_len (y :: r) t h
      omega
theorem txts_get : ∀ {l : List D} {i : Nat} {d : D}, l[i]? = some d → txt d ∈ txts l
  | [], i, d, e => by simp at e
  | x :: r, 0, d, e => by
    simp at e
    rw [← e, txts]
    exact List.mem_cons_self
  | x :: r, i + 1, d, e => by
    rw [txts]
    exact List.mem_cons_of_mem _ (txts_get (by simpa using e))
theorem part_len {l : List D} {i : Nat} {d : D} (e : l[i]? = some d) : (txt d).length ≤ (txt (.tup l)).length := by
  have := sepL_len _ _ (txts_get e)
  rw [txt]
  simp only [List.length_cons, List.length_append]
  omega
theorem wrs_get : ∀ {l : List D} {k i : Nat} {d : D} {ts : List (List Nat)}, wrs k l = .ok ts → l[i]? = some d → ∃ t, wr k d = .ok t ∧ ts[i]? = some t
  | [], k, i, d, ts, h, e => by simp at e
  | x :: r, k, i, d, ts, h, e => by
    rw [wrs] at h
    cases q : wr k x with
    | fig => rw [q] at h; cases h
    | dep => rw [q] at h; cases h
    | ok t =>
      rw [q] at h
      dsimp only at h
      cases q2 : wrs k r with
      | fig => rw [q2] at h; cases h
      | dep => rw [q2] at h; cases h
      | ok ts2 =>
        rw [q2] at h
        injection h with h
        rw [← h]
        cases i with
        | zero =>
          simp at e
          rw [← e]
          exact ⟨t, q, rfl⟩
        | succ i =>
          obtain ⟨t2, h1, h2⟩ := wrs_get q2 (i := i) (by simpa using e)
          exact ⟨t2, h1, by simpa using h2⟩
/-! ### the three replacements -/
theorem repl1 (c : Nat) (z : List Nat) : ∀ l : List Nat, replL [c] z l = l.flatMap fun d => if d = c then z else [d]
  | [] => by rw [replL_nil] <;> rfl
  | d :: r => by
    rw [List.flatMap_cons]
    by_cases h : d = c
    · rw [replL_hit (by simp) (by rw [h]; rfl), if_pos h]
      show z ++ replL [c] z r = _
      rw [repl1 c z r]
    · rw [replL_miss (by intro q; apply h; injection q), if_neg h, repl1 c z r] <;> rfl
theorem esc_repl (l : List Nat) : replL [10] [92, 110] (replL [34] [92, 34] (replL [92] [92, 92] l)) = esc l := by
  rw [repl1, repl1, repl1]
  induction l with
  | nil => rfl
  | cons d r ih =>
    unfold esc
    rw [List.flatMap_cons, List.flatMap_cons, List.flatMap_append, List.flatMap_append, ih]
    congr 1
    unfold esc1
    by_cases h10 : d = 10
    · subst h10; rfl
    · by_cases h92 : d = 92
      · subst h92; rfl
      · by_cases h34 : d = 34
        · subst h34; rfl
        · rw [if_neg h92, if_neg h10, if_neg (by omega)]
          simp only [List.flatMap_cons, List.flatMap_nil, if_neg h34, List.append_nil, if_neg h10]
theorem replace_S {a z : List Nat} {c : Nat} : Txt.replace (S a) (S [c]) (S z) = S (replL [c] z a) := by
  have e := replace_list (x := S a) (y := S [c]) (z := S z) (Nat.le_refl 1)
  exact TL.ext_tl e
theorem esc_S (s : List Nat) : Txt.replace (Txt.replace (Txt.replace (S s) (S [92]) (S [92, 92])) (S [34]) (S [92, 34])) (S [10]) (S [92, 110]) = S (esc s) := by
  rw [replace_S, replace_S, replace_S, esc_repl]
end DD

set_option Elab.async false
set_option linter.all false
set_option maxRecDepth 100000
set_option maxHeartbeats 4000000
/-! M4: good data, its nodes, its depth. -/
namespace DD
open PySem L2
def okC (c : Nat) : Bool := decide (c = 10) || (decide (32 ≤ c) && decide (c ≤ 126))
mutual
def G : D → Prop
  | .non => True
  | .bl _ => True
  | .int i => fitsI i = true
  | .str s => s.length ≤ 7 ∧ s.all okC = true
  | .tup l => Gs l
def Gs : List D → Prop
  | [] => True
  | d :: r => G d ∧ Gs r
end
mutual
def nd : D → Nat
  | .tup l => 1 + nds l
  | _ => 1
def nds : List D → Nat
  | [] => 0
  | d :: r => nd d + nds r
end
mutual
def dp : D → Nat
  | .tup l => 1 + dps l
  | _ => 0
def dps : List D → Nat
  | [] => 0
  | d :: r => max (dp d) (dps r)
end
theorem Gs_append : ∀ {l r : List D}, Gs (l ++ r) ↔ Gs l ∧ Gs r
  | [], r => by
    constructor
    · intro h
      exact ⟨by unfold Gs; trivial, h⟩
    · intro h
      exact h.2
  | d :: l, r => by
    show Gs (d :: (l ++ r)) ↔ Gs (d :: l) ∧ Gs r
    rw [Gs, Gs, Gs_append (l := l) (r := r), and_assoc]
theorem nds_append : ∀ (l r : List D), nds (l ++ r) = nds l + nds r
  | [], r => by
    show nds r = nds [] + nds r
    rw [show nds [] = 0 by rw [nds]]
    omega
  | d :: l, r => by
    show nds (d :: (l ++ r)) = _
    rw [nds, nds, nds_append l r]
    omega
theorem dps_append : ∀ (l r : List D), dps (l ++ r) = max (dps l) (dps r)
  | [], r => by
    show dps r = max (dps []) (dps r)
    rw [show dps [] = 0 by rw [dps]]
    omega
  | d :: l, r => by
    show dps (d :: (l ++ r)) = _
    rw [dps, dps, dps_append l r]
    omega
theorem nd_pos (d : D) : 1 ≤ nd d := by
  cases d with
  | tup l => rw [nd.eq_def]; dsimp only; omega
  | _ => rw [nd.eq_def] <;> exact Nat.le_refl 1
theorem G_int (i : Int) : G (.int i) ↔ fitsI i = true := by rw [G]
theorem G_str (s : List Nat) : G (.str s) ↔ (s.length ≤ 7 ∧ s.all okC = true) := by rw [G]
theorem G_tup (l : List D) : G (.tup l) ↔ Gs l := by rw [G]
theorem nd_tup (l : List D) : nd (.tup l) = 1 + nds l := by rw [nd]
theorem dp_tup (l : List D) : dp (.tup l) = 1 + dps l := by rw [dp]
end DD

set_option Elab.async false
set_option linter.all false
set_option maxRecDepth 100000
set_option maxHeartbeats 4000000
/-! Y1 (k80): the law's machine of signs as a plain function; it says what readL says. -/
namespace DD
open PySem L2
def okA (c : Nat) : Bool := decide (c = 10) || (decide (32 ≤ c) && decide (c ≤ 126))
theorem okA_iff {c : Nat} : okA c = true ↔ c = 10 ∨ (32 ≤ c ∧ c ≤ 126) := by
  unfold okA
  rw [Bool.or_eq_true, Bool.and_eq_true, decide_eq_true_iff, decide_eq_true_iff, decide_eq_true_iff]
inductive Md where
  | val | fst | txt | esc | word | num | beh
deriving DecidableEq
structure Ms where
  stk : List (List D)
  md : Md
  got : List Nat
  bg : List Nat
inductive So where
  | go (s : Ms)
  | stop (x : List Nat)
def pushD (d : D) : List (List D) → List (List D)
  | [] => []
  | acc :: r => (acc ++ [d]) :: r
def intOf : List Nat → D
  | [] => .int 0
  | c :: r => if c = 45 then .int (-((NumText.digitsVal r : Nat) : Int)) else .int ((NumText.digitsVal (c :: r) : Nat) : Int)
def wordTail (c : Nat) : List Nat := if c = 110 then [111, 110, 101] else if c = 116 then [114, 117, 101] else [97, 108, 115, 101]
def wordVal : List Nat → D
  | [] => .non
  | c :: _ => if c = 110 then .non else if c = 116 then .bl true else .bl false
def popD : List (List D) → List (List D)
  | a :: r => pushD (.tup a) r
  | [] => []
/-- a number's end -/
def preM (c : Nat) (s : Ms) : Ms := match s.md with
  | .num => if s.got ≠ [45] ∧ isDig c = false then ⟨pushD (intOf s.got) s.stk, .beh, [], []⟩ else s
  | _ => s
def begunM (c : Nat) (r : List Nat) (s : Ms) (first : Bool) : So :=
  if c = 40 then (if s.stk.length = 25 then .stop (c :: r) else .go ⟨[] :: s.stk, .fst, [], []⟩)
  else if c = 41 ∧ first = true then .go ⟨popD s.stk, .beh, [], []⟩
  else if c = 34 then .go ⟨s.stk, .txt, [], c :: r⟩
  else if c = 110 ∨ c = 116 ∨ c = 102 then .go ⟨s.stk, .word, wordTail c, c :: r⟩
  else if c = 45 ∨ isDig c = true then .go ⟨s.stk, .num, [c], c :: r⟩
  else .stop (c :: r)
def stepM (c : Nat) (r : List Nat) (s : Ms) : So := match s.md with
  | .num => if s.got = [48] ∨ (s.got = [45] ∧ ¬ (49 ≤ c ∧ c ≤ 57)) then .stop (c :: r)
    else if s.got.length - (if s.got.head? = some 45 then 1 else 0) = 1500 then .stop s.bg
    else .go ⟨s.stk, .num, s.got ++ [c], s.bg⟩
  | .txt => if c = 34 then .go ⟨pushD (.str s.got) s.stk, .beh, [], []⟩
    else if c = 92 then .go ⟨s.stk, .esc, s.got, s.bg⟩
    else if c = 10 then .stop (c :: r)
    else .go ⟨s.stk, .txt, s.got ++ [c], s.bg⟩
  | .esc => if c = 92 ∨ c = 34 ∨ c = 110 then .go ⟨s.stk, .txt, s.got ++ [if c = 110 then 10 else c], s.bg⟩ else .stop (c :: r)
  | .word => if s.got.head? ≠ some c then .stop (c :: r)
    else if s.got.tail = [] then .go ⟨pushD (wordVal s.bg) s.stk, .beh, [], []⟩
    else .go ⟨s.stk, .word, s.got.tail, s.bg⟩
  | .beh => if s.stk.length = 1 ∨ (c ≠ 32 ∧ c ≠ 41) then .stop (c :: r)
    else if c = 32 then .go ⟨s.stk, .val, [], []⟩
    else .go ⟨popD s.stk, .beh, [], []⟩
  | .val => begunM c r s false
  | .fst => begunM c r s true
def endM (s : Ms) : Ms := match s.md with
  | .num => if s.got ≠ [45] then ⟨pushD (intOf s.got) s.stk, .beh, [], []⟩ else s
  | _ => s
def lastM (s : Ms) : Rs D := match s.md with
  | .beh => (match s.stk with
    | [d :: _] => .ok d []
    | _ => .bad [])
  | _ => .bad []
def runM : List Nat → Ms → Rs D
  | [], s => lastM (endM s)
  | c :: r, s => match stepM c r (preM c s) with
    | .stop x => .bad x
    | .go s' => runM r s'
/-- the machine behind a value -/
def behM (stk : List (List D)) (l : List Nat) : Rs D := runM l ⟨stk, .beh, [], []⟩
/-- on behind a thing that was read -/
def onM {α : Type} (r : Rs α) (f : α → List Nat → Rs D) : Rs D := match r with
  | .ok a l => f a l
  | .bad x => .bad x
/-! ### texts, words, numbers -/
theorem text_run : ∀ {l got : List Nat} {stk : List (List D)} {bg : List Nat}, (l.all okA = true) → runM l ⟨stk, .txt, got, bg⟩ = onM (textL l got) fun s l2 => behM (pushD (.str s) stk) l2
  | [], got, stk, bg, _ => by
    rw [textL.eq_def] <;> rfl
  | [c], got, stk, bg, h => by
    rw [List.all_cons, Bool.and_eq_true] at h
    have hc := okA_iff.mp h.1
    show (match stepM c [] ⟨stk, .txt, got, bg⟩ with | .stop x => Rs.bad x | .go s' => runM [] s') = _
    rw [textL.eq_def]
    show (match (if c = 34 then So.go _ else if c = 92 then So.go _ else if c = 10 then So.stop _ else So.go _) with | .stop x => Rs.bad x | .go s' => runM [] s') = onM (if c = 34 then _ else _) _
    by_cases h1 : c = 34
    · rw [if_pos h1, if_pos h1] <;> rfl
    · rw [if_neg h1, if_neg h1]
      by_cases h3 : c = 92
      · rw [if_pos h3, if_neg (by omega), if_pos h3] <;> rfl
      · rw [if_neg h3]
        by_cases h2 : c = 10
        · rw [if_pos h2, if_pos (by omega)] <;> rfl
        · rw [if_neg h2, if_neg (by omega), if_neg h3, textL.eq_def] <;> rfl
  | c :: e :: r2, got, stk, bg, h => by
    rw [List.all_cons, Bool.and_eq_true] at h
    have hc := okA_iff.mp h.1
    have h2' := h.2
    rw [List.all_cons, Bool.and_eq_true] at h2'
    have he := okA_iff.mp h2'.1
    show (match stepM c (e :: r2) ⟨stk, .txt, got, bg⟩ with | .stop x => Rs.bad x | .go s' => runM (e :: r2) s') = _
    rw [textL.eq_def]
    show (match (if c = 34 then So.go _ else if c = 92 then So.go _ else if c = 10 then So.stop _ else So.go _) with | .stop x => Rs.bad x | .go s' => runM (e :: r2) s') = onM (if c = 34 then _ else _) _
    by_cases h1 : c = 34
    · rw [if_pos h1, if_pos h1] <;> rfl
    · rw [if_neg h1, if_neg h1]
      by_cases h3 : c = 92
      · rw [if_pos h3, if_neg (by omega), if_pos h3]
        show (match (if e = 92 ∨ e = 34 ∨ e = 110 then So.go _ else So.stop _) with | .stop x => Rs.bad x | .go s' => runM r2 s') = onM (if e = 92 ∨ e = 34 ∨ e = 110 then _ else _) _
        by_cases h4 : e = 92 ∨ e = 34 ∨ e = 110
        · rw [if_pos h4, if_pos h4]
          exact text_run h2'.2
        · rw [if_neg h4, if_neg h4] <;> rfl
      · rw [if_neg h3]
        by_cases h2 : c = 10
        · rw [if_pos h2, if_pos (by omega)] <;> rfl
        · rw [if_neg h2, if_neg (by omega), if_neg h3]
          exact text_run h.2
theorem word_run : ∀ {W l : List Nat} {stk : List (List D)} {bg : List Nat}, W ≠ [] → runM l ⟨stk, .word, W, bg⟩ = onM (wordL W l) fun _ l2 => behM (pushD (wordVal bg) stk) l2
  | [], l, stk, bg, h => absurd rfl h
  | w :: W, [], stk, bg, _ => rfl
  | w :: W, c :: r, stk, bg, _ => by
    show (match (if (w :: W).head? ≠ some c then So.stop (c :: r) else if (w :: W).tail = [] then So.go _ else So.go _) with | .stop x => Rs.bad x | .go s' => runM r s') = onM (if c = w then wordL W r else .bad (c :: r)) _
    by_cases h : c = w
    · subst h
      rw [if_neg (fun z => z rfl), if_pos rfl]
      cases W with
      | nil => rfl
      | cons w2 W =>
        rw [if_neg (by intro z; cases z)]
        exact word_run (List.cons_ne_nil _ _)
    · rw [if_pos (by intro z; injection z with z; exact h z.symm), if_neg h] <;> rfl
/-- figures ds read behind a sign sg -/
theorem num_run : ∀ {l ds : List Nat} {sg : List Nat} {stk : List (List D)} {bg : List Nat}, (sg = [] ∨ sg = [45]) → ds ≠ [] → ds.all isDig = true → ds.length ≤ 1500 → (sg = [45] → ds ≠ [48]) →
    runM l ⟨stk, .num, sg ++ ds, bg⟩ = (if l.takeWhile isDig = [] then behM (pushD (intOf (sg ++ ds)) stk) l else if ds = [48] then .bad l else if ds.length + (l.takeWhile isDig).length > 1500 then .bad bg
      else behM (pushD (intOf (sg ++ (ds ++ l.takeWhile isDig))) stk) (l.dropWhile isDig))
  | [], ds, sg, stk, bg, hs, hd, ha, hl, h0 => by
    have hg : sg ++ ds ≠ [45] := by
      rcases hs with rfl | rfl
      · intro z
        rw [List.nil_append] at z
        rw [z] at ha
        exact absurd ha (by decide)
      · intro z
        injection z with _ z
        exact hd z
    show lastM (if sg ++ ds ≠ [45] then _ else _) = _
    rw [if_pos hg] <;> rfl
  | c :: r, ds, sg, stk, bg, hs, hd, ha, hl, h0 => by
    have hg : sg ++ ds ≠ [45] := by
      rcases hs with rfl | rfl
      · intro z
        rw [List.nil_append] at z
        rw [z] at ha
        exact absurd ha (by decide)
      · intro z
        injection z with _ z
        exact hd z
    cases hc : isDig c with
    | false =>
      have hp : preM c ⟨stk, .num, sg ++ ds, bg⟩ = ⟨pushD (intOf (sg ++ ds)) stk, .beh, [], []⟩ := by
        show (if sg ++ ds ≠ [45] ∧ isDig c = false then _ else _) = _
        rw [if_pos ⟨hg, hc⟩]
      rw [List.takeWhile_cons, hc]
      show (match stepM c r (preM c ⟨stk, .num, sg ++ ds, bg⟩) with | .stop x => Rs.bad x | .go s' => runM r s') = (if ([] : List Nat) = [] then _ else _)
      rw [hp, if_pos rfl] <;> rfl
    | true =>
      have hp : preM c ⟨stk, .num, sg ++ ds, bg⟩ = ⟨stk, .num, sg ++ ds, bg⟩ := by
        show (if sg ++ ds ≠ [45] ∧ isDig c = false then _ else _) = _
        rw [if_neg (fun z => by rw [hc] at z; cases z.2)]
      rw [List.takeWhile_cons, List.dropWhile_cons, hc, if_pos rfl, if_pos rfl, if_neg (List.cons_ne_nil _ _)]
      show (match stepM c r (preM c ⟨stk, .num, sg ++ ds, bg⟩) with | .stop x => Rs.bad x | .go s' => runM r s') = _
      rw [hp]
      show (match (if sg ++ ds = [48] ∨ (sg ++ ds = [45] ∧ ¬ (49 ≤ c ∧ c ≤ 57)) then So.stop (c :: r) else if (sg ++ ds).length - (if (sg ++ ds).head? = some 45 then 1 else 0) = 1500 then So.stop bg else So.go ⟨stk, .num, sg ++ ds ++ [c], bg⟩) with | .stop x => Rs.bad x | .go s' => runM r s') = _
      have hlen : (sg ++ ds).length - (if (sg ++ ds).head? = some 45 then 1 else 0) = ds.length := by
        rcases hs with rfl | rfl
        · cases ds with
          | nil => exact absurd rfl hd
          | cons x xs =>
            rw [List.all_cons, Bool.and_eq_true] at ha
            have hx : ¬ (some x = some 45) := fun z => by
              injection z with z
              rw [z] at ha
              exact absurd ha.1 (by decide)
            show (x :: xs).length - (if some x = some 45 then 1 else 0) = _
            rw [if_neg hx] <;> rfl
        · simp
      have h48 : sg ++ ds = [48] ↔ ds = [48] := by
        rcases hs with rfl | rfl
        · exact Iff.rfl
        · constructor
          · intro z; injection z with z _; cases z
          · intro z; exact absurd z (h0 rfl)
      rw [hlen]
      by_cases h1 : ds = [48]
      · rw [if_pos (.inl (h48.mpr h1)), if_pos h1]
      · rw [if_neg (by rintro (z | z); exact h1 (h48.mp z); exact hg z.1), if_neg h1]
        by_cases h2 : ds.length = 1500
        · rw [if_pos h2, if_pos (by rw [List.length_cons]; omega)]
        · rw [if_neg h2]
          have ih := num_run (l := r) (ds := ds ++ [c]) (sg := sg) (stk := stk) (bg := bg) hs (by simp) (by rw [List.all_append, ha] <;> simp [hc]) (by rw [List.length_append, List.length_singleton]; omega) (fun _ z => by
            cases ds with
            | nil => exact hd rfl
            | cons x xs =>
              injection z with _ z
              simp at z)
          have hne : ds ++ [c] ≠ [48] := fun z => by
            cases ds with
            | nil => exact hd rfl
            | cons x xs =>
              injection z with _ z
              simp at z
          show runM r ⟨stk, .num, sg ++ ds ++ [c], bg⟩ = _
          rw [List.append_assoc, ih]
          have hnil : ∀ {x : List Nat}, x = r.takeWhile isDig → (if x = [] then behM (pushD (intOf (sg ++ (ds ++ [c]))) stk) r else if ds ++ [c] = [48] then .bad r else if (ds ++ [c]).length + x.length > 1500 then .bad bg else behM (pushD (intOf (sg ++ (ds ++ [c] ++ x))) stk) (r.dropWhile isDig)) =
              (if ds.length + (c :: x).length > 1500 then Rs.bad bg else behM (pushD (intOf (sg ++ (ds ++ c :: x))) stk) (r.dropWhile isDig)) := fun {x} hx => by
            by_cases hx0 : x = []
            · subst hx0
              rw [if_pos rfl, if_neg (by rw [List.length_singleton]; omega)]
              have : r.dropWhile isDig = r := by
                have e := List.takeWhile_append_dropWhile (p := isDig) (l := r)
                rw [← hx] at e
                exact e
              rw [this]
            · rw [if_neg hx0, if_neg hne, List.length_append, List.length_singleton, List.length_cons, List.append_assoc]
              have e : ds.length + 1 + x.length = ds.length + (x.length + 1) := by omega
              rw [e] <;> rfl
          exact hnil rfl
theorem whole_run {l : List Nat} {c : Nat} {stk : List (List D)} (h : c = 45 ∨ isDig c = true) : runM l ⟨stk, .num, [c], c :: l⟩ = onM (wholeL (c :: l)) fun d l2 => behM (pushD d stk) l2 := by
  by_cases h45 : c = 45
  · subst h45
    have hw : wholeL (45 :: l) = wholeAt true (45 :: l) l := rfl
    rw [hw]
    cases l with
    | nil => rfl
    | cons e r =>
      have hp : preM e ⟨stk, .num, [45], 45 :: e :: r⟩ = ⟨stk, .num, [45], 45 :: e :: r⟩ := by
        have hn : ¬ (([45] : List Nat) ≠ [45] ∧ isDig e = false) := fun z => z.1 rfl
        show (if ([45] : List Nat) ≠ [45] ∧ isDig e = false then (⟨pushD (intOf [45]) stk, .beh, [], []⟩ : Ms) else _) = _
        exact if_neg hn
      show (match stepM e r (preM e ⟨stk, .num, [45], 45 :: e :: r⟩) with | .stop x => Rs.bad x | .go s' => runM r s') = _
      rw [hp]
      show (match (if ([45] : List Nat) = [48] ∨ (([45] : List Nat) = [45] ∧ ¬ (49 ≤ e ∧ e ≤ 57)) then So.stop (e :: r) else if 0 = 1500 then So.stop (45 :: e :: r) else So.go ⟨stk, .num, [45] ++ [e], 45 :: e :: r⟩) with | .stop x => Rs.bad x | .go s' => runM r s') = _
      by_cases he : 49 ≤ e ∧ e ≤ 57
      · have hd : isDig e = true := by
          unfold isDig
          rw [Bool.and_eq_true, decide_eq_true_iff, decide_eq_true_iff]
          omega
        rw [if_neg (by rintro (z | z); cases z; exact z.2 he), if_neg (by decide)]
        show runM r ⟨stk, .num, [45] ++ [e], 45 :: e :: r⟩ = _
        rw [num_run (.inr rfl) (List.cons_ne_nil _ _) (by simp [hd]) (by show 1 ≤ 1500; decide) (fun _ z => by injection z with z; omega)]
        have e1 : wholeAt true (45 :: e :: r) (e :: r) = (if ((e :: r).takeWhile isDig).length > 1500 then .bad (45 :: e :: r) else .ok (.int (-((NumText.digitsVal ((e :: r).takeWhile isDig) : Nat) : Int))) ((e :: r).dropWhile isDig)) := by
          show (if isDig e = false ∨ (true = true ∧ e = 48) then _ else if e = 48 ∧ _ then _ else if _ then _ else _) = _
          rw [if_neg (by rintro (z | z); rw [hd] at z; cases z; omega), if_neg (by intro z; omega)] <;> rfl
        rw [e1, List.takeWhile_cons, List.dropWhile_cons, hd, if_pos rfl, if_pos rfl]
        have hne : ¬ ([e] : List Nat) = [48] := fun z => by injection z with z; omega
        have hd1 : ∀ {x : List Nat}, x = r.takeWhile isDig → (if x = [] then behM (pushD (intOf ([45] ++ [e])) stk) r else if ([e] : List Nat) = [48] then .bad r else if [e].length + x.length > 1500 then .bad (45 :: e :: r) else behM (pushD (intOf ([45] ++ ([e] ++ x))) stk) (r.dropWhile isDig)) =
            onM (if (e :: x).length > 1500 then .bad (45 :: e :: r) else .ok (D.int (-((NumText.digitsVal (e :: x) : Nat) : Int))) (r.dropWhile isDig)) fun d l2 => behM (pushD d stk) l2 := fun {x} hx => by
          by_cases hx0 : x = []
          · subst hx0
            have : r.dropWhile isDig = r := by
              have e := List.takeWhile_append_dropWhile (p := isDig) (l := r)
              rw [← hx] at e
              exact e
            rw [if_pos rfl, if_neg (by show ¬ 1 > 1500; decide), this] <;> rfl
          · rw [if_neg hx0, if_neg hne]
            by_cases hl : (e :: x).length > 1500
            · rw [if_pos hl, if_pos (by rw [List.length_cons] at hl; rw [List.length_singleton]; omega)] <;> rfl
            · rw [if_neg hl, if_neg (by rw [List.length_cons] at hl; rw [List.length_singleton]; omega)] <;> rfl
        exact hd1 rfl
      · rw [if_pos (.inr ⟨rfl, he⟩)]
        have e1 : wholeAt true (45 :: e :: r) (e :: r) = .bad (e :: r) := by
          show (if isDig e = false ∨ (true = true ∧ e = 48) then _ else _) = _
          rw [if_pos]
          by_cases h48 : e = 48
          · exact .inr ⟨rfl, h48⟩
          · refine .inl ?_
            cases q : isDig e with
            | false => rfl
            | true =>
              unfold isDig at q
              rw [Bool.and_eq_true, decide_eq_true_iff, decide_eq_true_iff] at q
              omega
        rw [e1] <;> rfl
  · have hd : isDig c = true := by
      rcases h with h | h
      · exact absurd h h45
      · exact h
    have hw : wholeL (c :: l) = wholeAt false (c :: l) (c :: l) := by
      show (if c = 45 then _ else _) = _
      rw [if_neg h45]
    rw [hw]
    have hr := num_run (l := l) (ds := [c]) (sg := []) (stk := stk) (bg := c :: l) (.inl rfl) (List.cons_ne_nil _ _) (by simp [hd]) (by show 1 ≤ 1500; decide) (fun z => by cases z)
    have hr' : runM l ⟨stk, .num, [c], c :: l⟩ = _ := hr
    rw [hr']
    have e1 : wholeAt false (c :: l) (c :: l) = (if c = 48 ∧ ((c :: l).takeWhile isDig).length > 1 then .bad l else if ((c :: l).takeWhile isDig).length > 1500 then .bad (c :: l) else .ok (.int ((NumText.digitsVal ((c :: l).takeWhile isDig) : Nat) : Int)) ((c :: l).dropWhile isDig)) := by
      show (if isDig c = false ∨ (false = true ∧ c = 48) then _ else _) = _
      rw [if_neg (by rintro (z | z); rw [hd] at z; cases z; cases z.1)] <;> rfl
    rw [e1, List.takeWhile_cons, List.dropWhile_cons, hd, if_pos rfl, if_pos rfl]
    have hint : ∀ x : List Nat, intOf (c :: x) = .int ((NumText.digitsVal (c :: x) : Nat) : Int) := fun x => by
      show (if c = 45 then _ else _) = _
      rw [if_neg h45]
    have hd1 : ∀ {x : List Nat}, x = l.takeWhile isDig → (if x = [] then behM (pushD (intOf ([] ++ [c])) stk) l else if ([c] : List Nat) = [48] then .bad l else if [c].length + x.length > 1500 then .bad (c :: l) else behM (pushD (intOf ([] ++ ([c] ++ x))) stk) (l.dropWhile isDig)) =
        onM (if c = 48 ∧ (c :: x).length > 1 then .bad l else if (c :: x).length > 1500 then .bad (c :: l) else .ok (D.int ((NumText.digitsVal (c :: x) : Nat) : Int)) (l.dropWhile isDig)) fun d l2 => behM (pushD d stk) l2 := fun {x} hx => by
      by_cases hx0 : x = []
      · subst hx0
        have : l.dropWhile isDig = l := by
          have e := List.takeWhile_append_dropWhile (p := isDig) (l := l)
          rw [← hx] at e
          exact e
        rw [if_pos rfl, if_neg (by rintro ⟨_, z⟩; exact absurd z (by show ¬ 1 > 1; decide)), if_neg (by show ¬ 1 > 1500; decide), this]
        show behM (pushD (intOf (c :: [])) stk) l = behM (pushD _ stk) l
        rw [hint]
      · rw [if_neg hx0]
        have hx1 : x.length > 0 := List.length_pos_iff.mpr hx0
        by_cases h48 : c = 48
        · rw [if_pos (by rw [h48]), if_pos ⟨h48, by rw [List.length_cons]; omega⟩] <;> rfl
        · rw [if_neg (show ¬ ([c] : List Nat) = [48] from fun z => h48 (by injection z)), if_neg (show ¬ (c = 48 ∧ (c :: x).length > 1) from fun z => h48 z.1)]
          by_cases hl : (c :: x).length > 1500
          · rw [if_pos hl, if_pos (by rw [List.length_cons] at hl; rw [List.length_singleton]; omega)] <;> rfl
          · rw [if_neg hl, if_neg (by rw [List.length_cons] at hl; rw [List.length_singleton]; omega)]
            show behM (pushD (intOf (c :: x)) stk) _ = behM (pushD _ stk) _
            rw [hint]
    exact hd1 rfl
end DD

set_option Elab.async false
set_option linter.all false
set_option maxRecDepth 100000
set_option maxHeartbeats 4000000
/-! Y2 (k80): what is read lies within its signs; the machine says what readL says. -/
namespace DD
open PySem L2
def Suf (a b : List Nat) : Prop := ∃ p, b = p ++ a
theorem Suf.refl (a : List Nat) : Suf a a := ⟨[], rfl⟩
theorem Suf.trans {a b c : List Nat} (h : Suf a b) (k : Suf b c) : Suf a c := by
  obtain ⟨p, rfl⟩ := h
  obtain ⟨q, rfl⟩ := k
  exact ⟨q ++ p, by rw [List.append_assoc]⟩
theorem Suf.cons {a : List Nat} (c : Nat) : Suf a (c :: a) := ⟨[c], rfl⟩
theorem Suf.tail (a : List Nat) : Suf a.tail a := by
  cases a with
  | nil => exact Suf.refl _
  | cons c r => exact Suf.cons c
theorem Suf.all {a b : List Nat} (h : Suf a b) (k : b.all okA = true) : a.all okA = true := by
  obtain ⟨p, rfl⟩ := h
  rw [List.all_append, Bool.and_eq_true] at k
  exact k.2
mutual
def RD (n : Nat) : D → Prop
  | .non => True
  | .bl _ => True
  | .int i => fitsI i = true
  | .str s => s.length ≤ n
  | .tup l => RDs n l
def RDs (n : Nat) : List D → Prop
  | [] => True
  | d :: r => RD n d ∧ RDs n r
end
theorem RDs_append {n : Nat} : ∀ {l r : List D}, RDs n l → RDs n r → RDs n (l ++ r)
  | [], r, _, h => h
  | d :: l, r, h, k => by
    unfold RDs at h
    show RDs n (d :: (l ++ r))
    unfold RDs
    exact ⟨h.1, RDs_append h.2 k⟩
theorem wordL_suf : ∀ {W l l2 : List Nat} {u : Unit}, wordL W l = .ok u l2 → Suf l2 l
  | [], l, l2, u, h => by
    unfold wordL at h
    injection h with _ h
    rw [h]
    exact Suf.refl _
  | c :: W, [], l2, u, h => by
    unfold wordL at h
    cases h
  | c :: W, d :: l, l2, u, h => by
    unfold wordL at h
    by_cases e : d = c
    · rw [if_pos e] at h
      exact (wordL_suf h).trans (Suf.cons d)
    · rw [if_neg e] at h
      cases h
theorem textL_suf : ∀ {l acc s l2 : List Nat}, textL l acc = .ok s l2 → Suf l2 l ∧ s.length + l2.length ≤ acc.length + l.length
  | [], acc, s, l2, h => by
    rw [textL.eq_def] at h
    cases h
  | [c], acc, s, l2, h => by
    rw [textL.eq_def] at h
    dsimp only at h
    split at h
    · injection h with h1 h2
      rw [← h2, ← h1]
      exact ⟨Suf.cons c, by simp⟩
    · split at h
      · cases h
      · split at h
        · cases h
        · rw [textL.eq_def] at h
          cases h
  | c :: e :: r2, acc, s, l2, h => by
    rw [textL.eq_def] at h
    dsimp only at h
    split at h
    · injection h with h1 h2
      rw [← h2, ← h1]
      exact ⟨Suf.cons c, by simp only [List.length_cons]; omega⟩
    · split at h
      · cases h
      · split at h
        · split at h
          · have := textL_suf h
            rw [List.length_append, List.length_singleton] at this
            exact ⟨(this.1.trans (Suf.cons e)).trans (Suf.cons c), by simp only [List.length_cons]; omega⟩
          · cases h
        · have := textL_suf h
          rw [List.length_append, List.length_singleton] at this
          exact ⟨this.1.trans (Suf.cons c), by simp only [List.length_cons] at this ⊢; omega⟩
theorem drop_suf (p : Nat → Bool) (l : List Nat) : Suf (l.dropWhile p) l := ⟨l.takeWhile p, List.takeWhile_append_dropWhile.symm⟩
theorem dv_lt : ∀ (ds : List Nat) (a : Nat), ds.all isDig = true → ds.foldl (fun acc c => acc * 10 + (c - 48)) a < (a + 1) * 10 ^ ds.length
  | [], a, _ => by
    show a < (a + 1) * 1
    omega
  | c :: ds, a, h => by
    rw [List.all_cons, Bool.and_eq_true] at h
    have hc : 48 ≤ c ∧ c ≤ 57 := by
      have := h.1
      unfold isDig at this
      rwa [Bool.and_eq_true, decide_eq_true_iff, decide_eq_true_iff] at this
    have ih := dv_lt ds (a * 10 + (c - 48)) h.2
    show ds.foldl _ (a * 10 + (c - 48)) < (a + 1) * 10 ^ (ds.length + 1)
    refine Nat.lt_of_lt_of_le ih ?_
    rw [Nat.pow_succ, Nat.mul_comm (10 ^ ds.length) 10, ← Nat.mul_assoc]
    exact Nat.mul_le_mul_right _ (by omega)
theorem takeWhile_all (p : Nat → Bool) : ∀ l : List Nat, (l.takeWhile p).all p = true
  | [] => rfl
  | c :: r => by
    rw [List.takeWhile_cons]
    cases h : p c with
    | true => rw [if_pos rfl, List.all_cons, h, takeWhile_all p r] <;> rfl
    | false => rfl
theorem whole_fit {b : Bool} {l l1 l2 : List Nat} {d : D} (h : wholeAt b l l1 = .ok d l2) : Suf l2 l1 ∧ ∃ i, d = .int i ∧ fitsI i = true := by
  cases l1 with
  | nil => cases h
  | cons c r =>
    unfold wholeAt at h
    dsimp only at h
    split at h
    · cases h
    · split at h
      · cases h
      · split at h
        · cases h
        · rename_i hl
          injection h with h1 h2
          rw [← h2]
          refine ⟨drop_suf _ _, _, h1.symm, ?_⟩
          have hlt := dv_lt ((c :: r).takeWhile isDig) 0 (takeWhile_all _ _)
          have hv : NumText.digitsVal ((c :: r).takeWhile isDig) < 10 ^ 1500 := by
            refine Nat.lt_of_lt_of_le (show _ < (0 + 1) * 10 ^ _ from hlt) ?_
            rw [Nat.zero_add, Nat.one_mul]
            exact Nat.pow_le_pow_right (by decide) (by omega)
          refine decide_eq_true ?_
          split
          · rw [Int.natAbs_neg, Int.natAbs_natCast]
            exact hv
          · rw [Int.natAbs_natCast]
            exact hv
theorem wholeL_fit {l l2 : List Nat} {d : D} (h : wholeL l = .ok d l2) : Suf l2 l ∧ ∃ i, d = .int i ∧ fitsI i = true := by
  cases l with
  | nil => exact whole_fit (b := false) (l := []) h
  | cons c r =>
    unfold wholeL at h
    dsimp only at h
    split at h
    · obtain ⟨h1, h2⟩ := whole_fit h
      exact ⟨h1.trans (Suf.cons c), h2⟩
    · exact whole_fit h
theorem nd_non : nd .non = 1 := by rw [nd.eq_def]
theorem nd_bl (b : Bool) : nd (.bl b) = 1 := by rw [nd.eq_def]
theorem nd_int (i : Int) : nd (.int i) = 1 := by rw [nd.eq_def]
theorem nd_str (s : List Nat) : nd (.str s) = 1 := by rw [nd.eq_def]
/-- what a reader of a part gives lies within its signs -/
def Wi (n : Nat) (l l2 : List Nat) (d : D) : Prop := Suf l2 l ∧ l2.length < l.length ∧ 2 * nd d + l2.length ≤ l.length + 1 ∧ RD n d
theorem atomL_wi {n : Nat} {l l2 : List Nat} {d : D} (hn : l.length ≤ n) (h : atomL l = .ok d l2) : Wi n l l2 d := by
  have hlt := atomL_lt h
  have whole : wholeL l = .ok d l2 → Wi n l l2 d := fun e => by
    obtain ⟨h1, i, rfl, h2⟩ := wholeL_fit e
    exact ⟨h1, hlt, by rw [nd_int]; omega, by unfold RD; exact h2⟩
  cases l with
  | nil => exact whole h
  | cons c r =>
    unfold atomL at h
    dsimp only at h
    split at h
    · obtain ⟨s, e, rfl⟩ := map_ok h
      obtain ⟨h1, h2⟩ := textL_suf e
      have h0 : ([] : List Nat).length = 0 := rfl
      rw [List.length_cons] at hn
      exact ⟨h1.trans (Suf.cons c), hlt, by rw [nd_str]; omega, by unfold RD; omega⟩
    · split at h
      · obtain ⟨s, e, rfl⟩ := map_ok h
        exact ⟨wordL_suf e, hlt, by rw [nd_non]; omega, by unfold RD; trivial⟩
      · split at h
        · obtain ⟨s, e, rfl⟩ := map_ok h
          exact ⟨wordL_suf e, hlt, by rw [nd_bl]; omega, by unfold RD; trivial⟩
        · split at h
          · obtain ⟨s, e, rfl⟩ := map_ok h
            exact ⟨wordL_suf e, hlt, by rw [nd_bl]; omega, by unfold RD; trivial⟩
          · exact whole h
theorem partsL_wi {n : Nat} {rd : List Nat → Rs D} (hr : ∀ l d l2, l.length ≤ n → rd l = .ok d l2 → Wi n l l2 d) : ∀ {f : Nat} {l l2 : List Nat} {acc : List D} {d : D}, l.length ≤ n → RDs n acc → partsL rd f l acc = .ok d l2 →
    ∃ ds, d = .tup ds ∧ Suf l2 l ∧ RDs n ds ∧ 2 * nds ds + l2.length + (if acc = [] then 0 else 1) ≤ 2 * nds acc + l.length
  | 0, l, l2, acc, d, _, _, h => by
    unfold partsL at h
    cases h
  | f + 1, l, l2, acc, d, hn, ha, h => by
    unfold partsL at h
    split at h
    · rename_i h1
      injection h with h2 h3
      refine ⟨acc, h2.symm, ?_, ha, ?_⟩
      · rw [← h3]
        exact Suf.tail l
      · cases l with
        | nil => cases h1
        | cons c r =>
          rw [← h3]
          show _ + r.length + _ ≤ _ + (r.length + 1)
          split <;> omega
    · split at h
      · cases h
      · split at h
        · rename_i hq _ _ _ e
          have hs : Suf (if acc = [] then l else l.tail) l := by
            split
            · exact Suf.refl _
            · exact Suf.tail _
          have hl3 : (if acc = [] then l else l.tail).length ≤ n := by
            split
            · exact hn
            · rw [List.length_tail]; omega
          obtain ⟨w1, w2, w3, w4⟩ := hr _ _ _ hl3 e
          have hl2 : _ ≤ n := Nat.le_trans (Nat.le_of_lt w2) hl3
          obtain ⟨ds, e1, e2, e3, e4⟩ := partsL_wi hr hl2 (RDs_append ha (by unfold RDs; exact ⟨w4, by unfold RDs; trivial⟩)) h
          refine ⟨ds, e1, e2.trans (w1.trans hs), e3, ?_⟩
          rw [if_neg (by simp), nds_append] at e4
          rw [nds, show nds [] = 0 by rw [nds]] at e4
          by_cases h0 : acc = []
          · subst h0
            rw [if_pos rfl] at w3 ⊢
            omega
          · rw [if_neg h0] at w3 ⊢
            have hh : l.head? = some 32 := by
              by_cases z : l.head? = some 32
              · exact z
              · exact absurd ⟨h0, z⟩ hq
            cases l with
            | nil => cases hh
            | cons c r =>
              rw [List.length_cons]
              show _ ≤ _ + (r.length + 1)
              have w3' : 2 * nd _ + _ ≤ r.length + 1 := w3
              omega
        · cases h
theorem nestL_wi {n : Nat} : ∀ {k : Nat} {l l2 : List Nat} {d : D}, l.length ≤ n → nestL k l = .ok d l2 → Wi n l l2 d
  | 0, l, l2, d, hn, h => by
    unfold nestL at h
    split at h
    · cases h
    · exact atomL_wi hn h
  | k + 1, l, l2, d, hn, h => by
    have hlt := nestL_lt h
    unfold nestL at h
    split at h
    · rename_i h1
      cases l with
      | nil => cases h1
      | cons c r =>
        rw [List.length_cons] at hn
        obtain ⟨ds, rfl, e2, e3, e4⟩ := partsL_wi (n := n) (fun l d l2 hl e => nestL_wi (k := k) hl e) (l := r) (by omega) (by unfold RDs; trivial) h
        rw [if_pos rfl, show nds [] = 0 by rw [nds]] at e4
        refine ⟨e2.trans (Suf.cons c), hlt, ?_, by unfold RD; exact e3⟩
        rw [nd_tup, List.length_cons]
        omega
    · exact atomL_wi hn h
/-! ### the machine -/
theorem atom_run {l : List Nat} {stk : List (List D)} {first : Bool} (ha : l.all okA = true) (h40 : l.head? ≠ some 40) (h41 : first = true → l.head? ≠ some 41) :
    runM l ⟨stk, if first = true then .fst else .val, [], []⟩ = onM (atomL l) fun d l2 => behM (pushD d stk) l2 := by
  cases l with
  | nil => cases first <;> rfl
  | cons c r =>
    have hc40 : ¬ c = 40 := fun z => h40 (by rw [z] <;> rfl)
    have hc41 : ¬ (c = 41 ∧ first = true) := fun z => h41 z.2 (by rw [z.1] <;> rfl)
    have e0 : runM (c :: r) ⟨stk, if first = true then .fst else .val, [], []⟩ = (match begunM c r ⟨stk, if first = true then .fst else .val, [], []⟩ first with | .stop x => Rs.bad x | .go s' => runM r s') := by
      cases first <;> rfl
    rw [e0]
    unfold begunM
    rw [if_neg hc40, if_neg hc41]
    rw [List.all_cons, Bool.and_eq_true] at ha
    unfold atomL
    dsimp only
    by_cases h34 : c = 34
    · rw [if_pos h34, if_pos h34]
      show runM r ⟨stk, .txt, [], c :: r⟩ = _
      rw [text_run ha.2]
      cases textL r [] <;> rfl
    · rw [if_neg h34, if_neg h34]
      have word : ∀ (W : List Nat) (d : D), W = c :: wordTail c → wordVal (c :: r) = d → runM r ⟨stk, .word, wordTail c, c :: r⟩ = onM ((wordL W (c :: r)).map fun _ => d) fun d l2 => behM (pushD d stk) l2 := fun W d hW hd => by
        have hne : wordTail c ≠ [] := by
          unfold wordTail
          split
          · exact List.cons_ne_nil _ _
          · split <;> exact List.cons_ne_nil _ _
        rw [word_run hne, hW, hd]
        show _ = onM ((if c = c then wordL (wordTail c) r else .bad (c :: r)).map fun _ => d) _
        rw [if_pos rfl]
        cases wordL (wordTail c) r <;> rfl
      by_cases hw : c = 110 ∨ c = 116 ∨ c = 102
      · rw [if_pos hw]
        rcases hw with rfl | rfl | rfl
        · rw [if_pos rfl]
          exact word wNone .non rfl rfl
        · rw [if_neg (by decide), if_pos rfl]
          exact word wTrue (.bl true) rfl rfl
        · rw [if_neg (by decide), if_neg (by decide), if_pos rfl]
          exact word wFalse (.bl false) rfl rfl
      · rw [if_neg hw, if_neg (fun z => hw (.inl z)), if_neg (fun z => hw (.inr (.inl z))), if_neg (fun z => hw (.inr (.inr z)))]
        by_cases hn : c = 45 ∨ isDig c = true
        · rw [if_pos hn]
          exact whole_run hn
        · rw [if_neg hn]
          have e1 : wholeL (c :: r) = .bad (c :: r) := by
            show (if c = 45 then _ else _) = _
            rw [if_neg (fun z => hn (.inl z))]
            show (if isDig c = false ∨ _ then _ else _) = _
            rw [if_pos]
            refine .inl ?_
            cases q : isDig c with
            | false => rfl
            | true => exact absurd (.inr q) hn
          rw [e1] <;> rfl
theorem nest_run : ∀ {k : Nat} {l : List Nat} {stk : List (List D)} {first : Bool}, l.all okA = true → stk.length + k = 25 → 1 ≤ stk.length → (first = true → l.head? ≠ some 41) →
    runM l ⟨stk, if first = true then .fst else .val, [], []⟩ = onM (nestL k l) fun d l2 => behM (pushD d stk) l2
  | k, l, stk, first, ha, hk, hs, h41 => by
    by_cases h40 : l.head? = some 40
    · cases l with
      | nil => cases h40
      | cons c r =>
        have hc : c = 40 := Option.some.inj h40
        subst hc
        have e0 : runM (40 :: r) ⟨stk, if first = true then .fst else .val, [], []⟩ = (match (if stk.length = 25 then So.stop (40 :: r) else So.go ⟨[] :: stk, .fst, [], []⟩) with | .stop x => Rs.bad x | .go s' => runM r s') := by
          cases first <;> rfl
        rw [e0]
        cases k with
        | zero =>
          rw [if_pos (by omega), nestL, if_pos h40] <;> rfl
        | succ k =>
          rw [if_neg (by omega), nestL, if_pos h40]
          rw [List.all_cons, Bool.and_eq_true] at ha
          show runM r ⟨[] :: stk, .fst, [], []⟩ = onM (partsL (nestL k) ((40 :: r).length + 1) r []) _
          -- the parts
          have parts : ∀ (f : Nat) (l : List Nat) (acc : List D), l.length < f → l.all okA = true →
              (if acc = [] then runM l ⟨[] :: stk, .fst, [], []⟩ else behM (acc :: stk) l) = onM (partsL (nestL k) f l acc) fun d l2 => behM (pushD d stk) l2 := fun f => by
            induction f with
            | zero => intro l acc hf; omega
            | succ f ih =>
              intro l acc hf hal
              rw [partsL]
              by_cases h1 : l.head? = some 41
              · rw [if_pos h1]
                cases l with
                | nil => cases h1
                | cons c t =>
                  have hc : c = 41 := Option.some.inj h1
                  subst hc
                  by_cases h0 : acc = []
                  · subst h0
                    rw [if_pos rfl] <;> rfl
                  · rw [if_neg h0]
                    show (match (if (acc :: stk).length = 1 ∨ (41 ≠ 32 ∧ 41 ≠ 41) then So.stop (41 :: t) else if 41 = 32 then So.go _ else So.go ⟨pushD (.tup acc) stk, .beh, [], []⟩) with | .stop x => Rs.bad x | .go s' => runM t s') = _
                    rw [if_neg (by rw [List.length_cons]; omega), if_neg (by decide)] <;> rfl
              · rw [if_neg h1]
                have go : ∀ (l' : List Nat) (first : Bool), l'.length < f + 1 → l'.all okA = true → (first = true → l'.head? ≠ some 41) → runM l' ⟨acc :: stk, if first = true then .fst else .val, [], []⟩ = onM (match nestL k l' with
                    | .ok d l2 => partsL (nestL k) f l2 (acc ++ [d])
                    | .bad x => .bad x) fun d l2 => behM (pushD d stk) l2 := fun l' first hl' hal' hf' => by
                  rw [nest_run (k := k) (stk := acc :: stk) hal' (by rw [List.length_cons]; omega) (by rw [List.length_cons]; omega) hf']
                  cases q : nestL k l' with
                  | bad x => rfl
                  | ok d l2 =>
                    obtain ⟨w1, w2, _, _⟩ := nestL_wi (Nat.le_refl _) q
                    have := ih l2 (acc ++ [d]) (by omega) (w1.all hal')
                    rw [if_neg (by simp)] at this
                    exact this
                by_cases h0 : acc = []
                · subst h0
                  rw [if_pos rfl, if_neg (fun z => z.1 rfl), if_pos rfl]
                  exact go l true (by omega) hal fun _ => h1
                · rw [if_neg h0]
                  by_cases h32 : l.head? = some 32
                  · rw [if_neg (fun z => z.2 h32), if_neg h0]
                    cases l with
                    | nil => cases h32
                    | cons c t =>
                      have hc : c = 32 := Option.some.inj h32
                      subst hc
                      rw [List.all_cons, Bool.and_eq_true] at hal
                      show (match (if (acc :: stk).length = 1 ∨ (32 ≠ 32 ∧ 32 ≠ 41) then So.stop (32 :: t) else if 32 = 32 then So.go ⟨acc :: stk, .val, [], []⟩ else So.go _) with | .stop x => Rs.bad x | .go s' => runM t s') = _
                      rw [if_neg (by rw [List.length_cons]; omega), if_pos rfl]
                      rw [List.length_cons] at hf
                      exact go t false (by omega) hal.2 (fun z => by cases z)
                  · rw [if_pos ⟨h0, h32⟩]
                    cases l with
                    | nil =>
                      show lastM ⟨acc :: stk, .beh, [], []⟩ = Rs.bad []
                      cases stk with
                      | nil => exact absurd hs (by decide)
                      | cons y ys =>
                        unfold lastM
                        cases acc <;> rfl
                    | cons c t =>
                      have hc1 : c ≠ 41 := fun z => h1 (by rw [z] <;> rfl)
                      have hc2 : c ≠ 32 := fun z => h32 (by rw [z] <;> rfl)
                      show (match (if (acc :: stk).length = 1 ∨ (c ≠ 32 ∧ c ≠ 41) then So.stop (c :: t) else if c = 32 then So.go _ else So.go _) with | .stop x => Rs.bad x | .go s' => runM t s') = _
                      rw [if_pos (.inr ⟨hc2, hc1⟩)] <;> rfl
          have := parts ((40 :: r).length + 1) r [] (by rw [List.length_cons]; omega) ha.2
          rw [if_pos rfl] at this
          exact this
    · have e1 : nestL k l = atomL l := by
        cases k with
        | zero => rw [nestL, if_neg h40]
        | succ k => rw [nestL, if_neg h40]
      rw [e1]
      exact atom_run ha h40 h41
/-- the law's machine says what the reader says -/
theorem run_read {L : List Nat} (ha : L.all okA = true) : runM L ⟨[[]], .val, [], []⟩ = readL L := by
  have h := nest_run (k := 24) (l := L) (stk := [[]]) (first := false) ha rfl (by decide) (fun z => by cases z)
  have h' : runM L ⟨[[]], .val, [], []⟩ = onM (nestL 24 L) fun d l2 => behM (pushD d [[]]) l2 := h
  rw [h']
  unfold readL
  cases nestL 24 L with
  | bad x => rfl
  | ok d l2 =>
    cases l2 with
    | nil => rfl
    | cons c r => rfl
end DD

set_option Elab.async false
set_option linter.all false
set_option maxRecDepth 100000
set_option maxHeartbeats 4000000
/-! P8: small lemmas. -/
namespace DD
open PySem L2
mutual
theorem wr_txt : ∀ (d : D) {k : Nat} {t : List Nat}, wr k d = .ok t → t = txt d
  | .non, k, t, h => by rw [wr_non] at h; injection h with h; rw [← h, txt]
  | .bl true, k, t, h => by rw [wr_tt] at h; injection h with h; rw [← h, txt]
  | .bl false, k, t, h => by rw [wr_ff] at h; injection h with h; rw [← h, txt]
  | .int i, k, t, h => by
    rw [wr_int] at h
    split at h
    · injection h with h; rw [← h, txt]
    · cases h
  | .str s, k, t, h => by rw [wr_str] at h; injection h with h; rw [← h, txt]
  | .tup l, 0, t, h => by rw [wr_tup0] at h; cases h
  | .tup l, k + 1, t, h => by
    rw [wr_tupS] at h
    cases q : wrs k l with
    | fig => rw [q] at h; cases h
    | dep => rw [q] at h; cases h
    | ok ts =>
      rw [q] at h
      injection h with h
      rw [← h, txt, wrs_txts l q]
theorem wrs_txts : ∀ (l : List D) {k : Nat} {ts : List (List Nat)}, wrs k l = .ok ts → ts = txts l
  | [], k, ts, h => by
    rw [wrs] at h
    injection h with h
    rw [← h, txts]
  | d :: r, k, ts, h => by
    rw [wrs] at h
    cases q : wr k d with
    | fig => rw [q] at h; cases h
    | dep => rw [q] at h; cases h
    | ok t =>
      rw [q] at h
      dsimp only at h
      cases q2 : wrs k r with
      | fig => rw [q2] at h; cases h
      | dep => rw [q2] at h; cases h
      | ok us =>
        rw [q2] at h
        injection h with h
        rw [← h, txts, wr_txt d q, wrs_txts r q2]
end
def Wr.pre (ts : List (List Nat)) : Wr (List (List Nat)) → Wr (List (List Nat))
  | .ok us => .ok (ts ++ us)
  | .fig => .fig
  | .dep => .dep
theorem Wr.pre_pre (ts us : List (List Nat)) (r : Wr (List (List Nat))) : Wr.pre ts (Wr.pre us r) = Wr.pre (ts ++ us) r := by
  cases r with
  | ok x => show Wr.ok (ts ++ (us ++ x)) = Wr.ok (ts ++ us ++ x); rw [List.append_assoc]
  | fig => rfl
  | dep => rfl
theorem wrs_cons (k : Nat) (d : D) (r : List D) : wrs k (d :: r) = (match wr k d with | .ok t => Wr.pre [t] (wrs k r) | .fig => .fig | .dep => .dep) := by
  rw [wrs]
  cases wr k d with
  | fig => rfl
  | dep => rfl
  | ok t =>
    dsimp only
    cases wrs k r <;> rfl
theorem sepL_sum : ∀ ts : List (List Nat), (ts.map (·.length)).sum + ts.length ≤ (sepL ts).length + 1
  | [] => by show 0 ≤ 1; omega
  | [x] => by
    show (x.length + 0) + 1 ≤ x.length + 1
    omega
  | x :: y :: r => by
    have h := sepL_sum (y :: r)
    have e : (sepL (x :: y :: r)).length = x.length + ((sepL (y :: r)).length + 1) := by
      show (x ++ 32 :: sepL (y :: r)).length = _
      rw [List.length_append, List.length_cons]
    rw [e, List.map_cons, List.sum_cons, List.length_cons]
    omega
theorem joinL_sep : ∀ ts : List (List Nat), TL.joinL [32] ts = sepL ts
  | [] => rfl
  | [x] => rfl
  | x :: y :: r => by
    show x ++ ([32] ++ TL.joinL [32] (y :: r)) = x ++ 32 :: sepL (y :: r)
    rw [joinL_sep (y :: r)] <;> rfl
theorem txts_len : ∀ l : List D, (txts l).length = l.length
  | [] => by rw [txts] <;> rfl
  | d :: r => by rw [txts, List.length_cons, List.length_cons, txts_len r]
theorem tup_len (l : List D) : (txt (.tup l)).length = (sepL (txts l)).length + 2 := by
  rw [txt]
  simp only [List.length_cons, List.length_append, List.length_nil]
theorem count_le (l : List D) : l.length ≤ (txt (.tup l)).length := by
  have h := sepL_sum (txts l)
  rw [txts_len] at h
  rw [tup_len]
  omega
end DD
namespace K80
open PySem PySem.Spec PyProof.Rows L2 DD
theorem abs_of (i : Int) : (if i < 0 then -i else i) = (i.natAbs : Int) := by
  split <;> omega
def isTup : D → Bool
  | .tup _ => true
  | _ => false
theorem numS (i : Int) : Str.ofString (toString i) = S (numL i) := Str.ofString_eq_toList _
theorem S_app (a b : List Nat) : S a ++ S b = S (a ++ b) := TL.ext_tl (by rw [TL.tl_append] <;> rfl)
section
variable {w : World} {K : PySem.W.Frag} {mg : Str → Option Value} {base : Heap}
theorem isi_tup {H : Hp} {d : D} {v : V} (h : DAt H d v) : ∃ t b, TyX K H v t ∧ PySem.W.kitOne K t (.type "tuple") = some b ∧ b = isTup d := by
  cases d with
  | non => unfold DAt at h; subst h; exact ⟨_, false, .base .non, kit_ty (by decide +kernel), rfl⟩
  | bl x => unfold DAt at h; subst h; exact ⟨_, false, .base (.bl _), kit_ty (by decide +kernel), rfl⟩
  | int i => unfold DAt at h; subst h; exact ⟨_, false, .base (.int _), kit_ty (by decide +kernel), rfl⟩
  | str s => unfold DAt at h; subst h; exact ⟨_, false, .base (.str _), kit_ty (by decide +kernel), rfl⟩
  | tup l =>
    unfold DAt at h
    obtain ⟨a, xs, rfl, ha, _⟩ := h
    exact ⟨_, true, .base (.tup ha), kit_ty (by decide +kernel), rfl⟩
end
theorem yes {σ : L2.St} {H : Hp} {A B : Hp → Prop} (h : A H) : tYes σ H fun b H3 => if b = true then A H3 else B H3 := h
end K80

set_option Elab.async false
set_option linter.all false
set_option maxRecDepth 100000
set_option maxHeartbeats 4000000
/-! V10: the draws. -/
namespace K80
open PySem PySem.Spec PyProof.Rows L2 DD
section
variable {w : World} {K : PySem.W.Frag} {mg : Str → Option Value} {base : Heap}
def JarAt (H : Hp) (j : Addr) : Prop := ∃ x n r : Int, H j = some (.lst [.int x, .int n, .int r])
def spMix : Sp := fun vs H Q _ => ∃ a b : Int, vs = [.int a, .int b] ∧ ∀ i : Int, Q (.int i) H
theorem scMx : FnScope ["number", "turn", "first", "second"] ["number", "turn"] (defScope sMix) := ⟨rfl, rfl, rfl, by decide +kernel, rfl, by decide +kernel, by decide +kernel⟩
theorem ok_mix {fd : FuncData} (F : FnG K "_law_mix" sMix fd) (T : Txt PG w K mg) : FnOk PG w K mg base CX0 1 (He.ga K "_law_mix") fd ["number", "turn"] spMix := by
  have nd := scMx.nd
  refine F.ok scMx (fun vs H Q E h => ?_) (fun cdv A outer s H vs Q E hr h => ⟨_, PSs.nox (
    pss_cons (ps_set (i := 2) nd rfl (Or.inl rfl) (pe_op op_mod (pe_callTy call_int1 (by rfl) T.n_int (by decide +kernel) (pa_cons (pe_op op_add (pe_op op_mul (pe_op op_add (pv 0) pe_int) pe_int) (pe_op op_mul (pe_op op_add (pv 1) pe_int) pe_int)) pa_nil)) pe_int)) <|
    pss_cons (ps_set (i := 3) nd rfl (Or.inl rfl) (pe_op op_mod (pe_callTy call_int1 (by rfl) T.n_int (by decide +kernel) (pa_cons (pe_op op_add (pe_op op_mul (pv 2) (pe_op op_add (pe_op op_add (pv 2) (pe_op op_mul pe_int (pv 1))) pe_int)) pe_int) pa_nil)) pe_int)) <|
    pss_one (ps_ret (pe_op op_fdiv (pv 3) pe_int))), ?_⟩)
  · obtain ⟨a, b, rfl, _⟩ := h
    rfl
  · obtain ⟨a, b, rfl, k⟩ := h
    refine ⟨_, rfl, _, _, rfl, rfl, _, _, rfl, rfl, .inr ⟨by decide, by decide⟩, _, rfl, _, _, rfl, rfl, _, _, rfl, rfl, .inr ⟨by decide, by decide⟩, _, _, rfl, rfl, .inl ⟨_, rfl, _, _, rfl, rfl, by show (0 : Int) < 18446744073709551557; decide, ?_⟩⟩
    refine ⟨_, rfl, _, rfl, _, rfl, _, _, rfl, rfl, .inl ⟨by decide, by decide⟩, _, _, rfl, rfl, _, _, rfl, rfl, _, _, rfl, rfl, .inl ⟨?_, ?_⟩, _, _, rfl, rfl, .inl ⟨_, rfl, _, _, rfl, rfl, by show (0 : Int) < 18446744073709551533; decide, ?_⟩⟩
    · exact Int.lt_of_lt_of_le (by decide) (Int.emod_nonneg _ (by decide))
    · exact Int.lt_trans (Int.emod_lt_of_pos _ (by decide)) (by decide)
    · exact ⟨_, rfl, _, _, rfl, rfl, ⟨by decide, by decide⟩, k _⟩
def spDraw : Sp := fun vs H Q _ => ∃ (j : Addr) (m : Int), vs = [.ref j, .int m] ∧ JarAt H j ∧ 0 < m ∧ m < 1073741824 ∧ ∀ i : Nat, (i : Int) < m → ∀ H', KeepB H H' j → JarAt H' j → Q (.int i) H'
theorem scDr : FnScope ["jar", "many", "digit"] ["jar", "many"] (defScope sDraw) := ⟨rfl, rfl, rfl, by decide +kernel, rfl, by decide +kernel, by decide +kernel⟩
theorem ok_draw {fd fdM : FuncData} (F : FnG K "_law_draw" sDraw fd) (FM : FnG K "_law_mix" sMix fdM) (T : Txt PG w K mg) : FnOk PG w K mg base CX0 2 (He.ga K "_law_draw") fd ["jar", "many"] spDraw := by
  have GM := ok_mix (base := base) FM T
  have bM : Binds K fdM ["number", "turn"] [] := FM.bindsN fun _ _ _ _ _ _ us hl => match us, hl with | [_, _], _ => rfl
  have nd := scDr.nd
  refine F.ok scDr (fun vs H Q E h => ?_) (fun cdv A outer s H vs Q E hr h => ⟨_, PSs.nox (
    pss_cons (ps_asg (pe_op op_add (pe_ix ix_list (pv 0) pe_int (fun _ _ => rfl)) pe_int) (pg_sub (pv 0) pe_int set_list)) <|
    pss_cons (ps_if (pt_cmpR op_gt (pe_ix ix_list (pv 0) pe_int (fun _ _ => rfl)) pe_int (nomark _))
      (pss_cons (ps_set (i := 2) nd rfl (Or.inl rfl) (pe_op op_mod (pe_callTy call_int1 (by rfl) T.n_int (by decide +kernel) (pa_cons (pe_ix ix_list (pv 0) pe_int (fun _ _ => rfl)) pa_nil)) (pv 1))) <|
       pss_cons (ps_asg (pe_op op_fdiv (pe_ix ix_list (pv 0) pe_int (fun _ _ => rfl)) (pv 1)) (pg_sub (pv 0) pe_int set_list)) <|
       pss_one (ps_ret (pv 2))) pss_nil) <|
    pss_one (ps_ret (pe_op op_mod (pe_callTy call_int1 (by rfl) T.n_int (by decide +kernel) (pa_cons (pe_call GM hr rfl T.g_l_mix FM.kp bM .nil pass0 (pa_cons (pe_ix ix_list (pv 0) pe_int (fun _ _ => rfl)) (pa_cons (pe_ix ix_list (pv 0) pe_int (fun _ _ => rfl)) pa_nil))) pa_nil)) (pv 1)))), ?_⟩)
  · obtain ⟨j, m, rfl, _⟩ := h
    rfl
  · obtain ⟨j, m, rfl, ⟨x, n, r, hj⟩, h0, h1, k⟩ := h
    refine ⟨_, rfl, j, _, _, _, rfl, rfl, SqL.of hj, rfl, _, _, rfl, rfl, _, rfl, j, _, _, _, rfl, rfl, hj, rfl, ?_⟩
    have done : ∀ (y : Int) (H' : Hp), KeepB H H' j → JarAt H' j → Q (.int (y % m)) H' := fun y H' kb jr => by
      have e1 := Int.emod_nonneg y (Int.ne_of_gt h0)
      have e2 := Int.emod_lt_of_pos y h0
      have := k (y % m).toNat (by rw [Int.toNat_of_nonneg e1]; exact e2) H' kb jr
      rwa [Int.toNat_of_nonneg e1] at this
    refine ⟨_, rfl, j, _, _, _, rfl, rfl, SqL.of upd_same, rfl, _, _, rfl, rfl, _, rfl, ?_⟩
    refine iteC (fun hx => ?_) (fun hx => ?_)
    · refine ⟨_, rfl, j, _, _, _, rfl, rfl, SqL.of upd_same, rfl, .inl ⟨x, rfl, _, rfl, _, _, rfl, rfl, h0, ?_⟩⟩
      refine ⟨_, rfl, j, _, _, _, rfl, rfl, SqL.of upd_same, rfl, _, rfl, _, _, rfl, rfl, ⟨h0, h1⟩, _, rfl, j, _, _, _, rfl, rfl, upd_same, rfl, ?_⟩
      refine ⟨_, rfl, done x _ (fun b o e ne => ?_) ⟨x / m, n + 1, r, upd_same⟩⟩
      rw [upd_ne ne, upd_ne ne]
      exact e
    · refine ⟨_, rfl, j, _, _, _, rfl, rfl, SqL.of upd_same, rfl, _, rfl, j, _, _, _, rfl, rfl, SqL.of upd_same, rfl, r, n + 1, rfl, fun i => .inl ⟨i, rfl, _, rfl, _, _, rfl, rfl, h0, ?_⟩⟩
      exact done i _ KeepB.upd ⟨x, n + 1, r, upd_same⟩
/-! ### between, pick -/
/-- a def of the law that draws: only the jar turns, new objects come -/
def spBetween : Sp := fun vs H Q _ => ∃ (j : Addr) (lo hi : Int), vs = [.ref j, .int lo, .int hi] ∧ JarAt H j ∧ lo ≤ hi ∧ hi - lo < 1000000 ∧ ∀ i : Int, lo ≤ i → i ≤ hi → ∀ H', KeepB H H' j → JarAt H' j → Q (.int i) H'
structure Id (w : World) (K : PySem.W.Frag) (mg : Str → Option Value) (base : Heap) (k : Nat) (g : Addr) (ps : List Str) (sp : Sp) : Prop where
  ex : ∃ fd, FnOk PG w K mg base CX0 k g fd ps sp ∧ Binds K fd ps [] ∧ PySem.W.keepIn K (.ref g) = true
theorem scBw : FnScope ["jar", "low", "high"] ["jar", "low", "high"] (defScope sBetween) := ⟨rfl, rfl, rfl, by decide +kernel, rfl, by decide +kernel, by decide +kernel⟩
theorem ok_between {fd : FuncData} (F : FnG K "_law_between" sBetween fd) (ID : Id w K mg base 2 (He.ga K "_law_draw") ["jar", "many"] spDraw) (T : Txt PG w K mg) : FnOk PG w K mg base CX0 3 (He.ga K "_law_between") fd ["jar", "low", "high"] spBetween := by
  obtain ⟨fdD, GD, bD, kD⟩ := ID.ex
  have nd := scBw.nd
  refine F.ok scBw (fun vs H Q E h => ?_) (fun cdv A outer s H vs Q E hr h => ⟨_, PSs.nox (pss_one (ps_ret (pe_op op_add (pv 1) (pe_call GD hr rfl T.g_l_draw kD bD .nil pass0 (pa_cons (pv 0) (pa_cons (pe_op op_add (pe_op op_sub (pv 2) (pv 1)) pe_int) pa_nil)))))), ?_⟩)
  · obtain ⟨j, lo, hi, rfl, _⟩ := h
    rfl
  · obtain ⟨j, lo, hi, rfl, hj, h0, h1, k⟩ := h
    refine ⟨_, rfl, _, rfl, _, rfl, _, rfl, _, _, rfl, rfl, _, _, rfl, rfl, j, _, rfl, hj, by omega, by omega, fun i hi H' kb jr => ⟨_, _, rfl, rfl, k _ (by omega) (by omega) H' kb jr⟩⟩
def spPick (K : PySem.W.Frag) : Sp := fun vs H Q _ => ∃ (j p : Addr) (xs : List V), vs = [.ref j, .ref p] ∧ JarAt H j ∧ H p = some (.lst xs) ∧ j ≠ p ∧ xs ≠ [] ∧ xs.length < 1000 ∧ ∀ x ∈ xs, ∀ H', KeepB H H' j → JarAt H' j → Q x H'
theorem scPk : FnScope ["jar", "row"] ["jar", "row"] (defScope sPick) := ⟨rfl, rfl, rfl, by decide +kernel, rfl, by decide +kernel, by decide +kernel⟩
theorem ok_pick {fd : FuncData} (F : FnG K "_law_pick" sPick fd) (ID : Id w K mg base 2 (He.ga K "_law_draw") ["jar", "many"] spDraw) (T : Txt PG w K mg) : FnOk PG w K mg base CX0 3 (He.ga K "_law_pick") fd ["jar", "row"] (spPick K) := by
  obtain ⟨fdD, GD, bD, kD⟩ := ID.ex
  have nd := scPk.nd
  refine F.ok scPk (fun vs H Q E h => ?_) (fun cdv A outer s H vs Q E hr h => ⟨_, PSs.nox (pss_one (ps_ret (pe_ix ix_list (pv 1) (pe_call GD hr rfl T.g_l_draw kD bD .nil pass0 (pa_cons (pv 0) (pa_cons (pe_callB call_len_seq (by rfl) T.n_len boot_len (pa_cons (pv 1) pa_nil)) pa_nil))) (fun _ _ => rfl)))), ?_⟩)
  · obtain ⟨j, p, xs, rfl, _⟩ := h
    rfl
  · obtain ⟨j, p, xs, rfl, hj, hp, hne, h0, h1, k⟩ := h
    have hl : 0 < xs.length := List.length_pos_iff.mpr h0
    refine ⟨_, rfl, _, rfl, _, rfl, p, xs, rfl, .inl (SqL.of hp), j, _, rfl, hj, by omega, by omega, fun i hi H' kb jr => ?_⟩
    have hlt : i < xs.length := by omega
    refine ⟨p, xs, i, xs[i], rfl, rfl, SqL.of (kb p _ hp (Ne.symm hne)), atI_nat (List.getElem?_eq_getElem hlt), k _ (List.getElem_mem hlt) H' kb jr⟩
end
end K80

set_option Elab.async false
set_option linter.all false
set_option maxRecDepth 100000
set_option maxHeartbeats 4000000
/-! W11: the jar made; amount, letters, atom. -/
namespace K80
open PySem PySem.Spec PyProof.Rows L2 DD
section
variable {w : World} {K : PySem.W.Frag} {mg : Str → Option Value} {base : Heap}
def spJar (K : PySem.W.Frag) : Sp := fun vs H Q _ => ∃ (a : Addr) (ns : List Int) (pl : Nat), vs = [.ref a, .int pl] ∧ SqL K H a (ns.map .int) ∧ ∀ p H', Same H H' → H p = none → JarAt H' p → Q (.ref p) H'
theorem scJr : FnScope ["script", "place", "cells", "total", "cell", "great", "number"] ["script", "place"] (defScope sJar) := ⟨rfl, rfl, rfl, by decide +kernel, rfl, by decide +kernel, by decide +kernel⟩
theorem ok_jar {fd : FuncData} (F : FnG K "_law_jar" sJar fd) (T : Txt PG w K mg) : FnOk PG w K mg base CX0 1 (He.ga K "_law_jar") fd ["script", "place"] (spJar K) := by
  have nd := scJr.nd
  refine F.ok scJr (fun vs H Q E h => ?_) (fun cdv A outer s H vs Q E hr h => ⟨_, PSs.nox (
    pss_cons (ps_setLc (i := 2) (own := [("cell", 4)]) (g := gName 4) (tt := tYes) rfl nd rfl rfl (sw_true rfl rfl rfl (by decide +kernel)) (pi_list (pe_slice sl_list (pv 0) po_none (po_some pe_int))) (blkOk_by (N := ["script", "place", "cells", "total", "cell", "great", "number"]) (sc := defScope sJar) (by decide +kernel))
      (fun _ _ _ _ _ => pg_name (i := 4) nd rfl (Or.inl rfl)) (fun _ _ _ _ _ => pts_nil) (fun _ _ _ _ _ => pe_callTy call_int1 (by rfl) T.n_int (by decide +kernel) (pa_cons (pv 4) pa_nil))) <|
    pss_cons (ps_set (i := 3) nd rfl (Or.inl rfl) (pe_op op_add pe_int (pe_op op_mul pe_int (pv 1)))) <|
    C8.pss_cut (ps_for PassesOwn.never rfl (pi_list (pv 2)) (pg_name (i := 4) nd rfl (Or.inl rfl)) (pss_one (ps_set (i := 3) nd rfl (Or.inl rfl)
      (pe_op op_mod (pe_callTy call_int1 (by rfl) T.n_int (by decide +kernel) (pa_cons (pe_op op_add (pe_op op_mul (pv 3) pe_int) (pe_callB call_abs rfl T.n_abs boot_abs (pa_cons (pv 4) pa_nil))) pa_nil)) pe_int)))) <|
    pss_cons (ps_if (pt_cmpR op_ge (pv 1) (pe_callB call_len_seq (by rfl) T.n_len boot_len (pa_cons (pv 2) pa_nil)) (nomark _)) (pss_one (ps_ret (pe_lst (pa_cons pe_int (pa_cons pe_int (pa_cons (pv 3) pa_nil)))))) pss_nil) <|
    pss_cons (ps_set (i := 5) nd rfl (Or.inl rfl) (pe_callB call_abs rfl T.n_abs boot_abs (pa_cons (pe_ix ix_list (pv 2) (pv 1) (fun _ _ => rfl)) pa_nil))) <|
    C8.pss_cut (ps_set (i := 6) nd rfl (Or.inl rfl) (pe_op op_add (pe_op op_mul pe_int (pv 5)) (pe_ifExp (pt_cmpR op_lt (pe_ix ix_list (pv 2) (pv 1) (fun _ _ => rfl)) pe_int (nomark _)) pe_int pe_int))) <|
    pss_cons (ps_if (pt_cmpR op_ge (pv 5) (pe_op op_pow pe_int pe_int) (nomark _)) (pss_one (ps_ret (pe_lst (pa_cons (pv 5) (pa_cons pe_int (pa_cons (pv 6) pa_nil)))))) pss_nil) <|
    pss_one (ps_ret (pe_lst (pa_cons pe_int (pa_cons pe_int (pa_cons (pe_op op_add (pv 6) (pe_op op_mul pe_int (pv 1))) pa_nil)))))), ?_⟩)
  · obtain ⟨a, ns, pl, rfl, _⟩ := h
    rfl
  · obtain ⟨a, ns, pl, rfl, ha, k⟩ := h
    refine ⟨_, rfl, _, rfl, a, _, rfl, ha, fun p np => ?_⟩
    generalize hms : (ns.drop (HT.sIx (ns.map V.int).length 0 none)).take (HT.sIx (ns.map V.int).length (ns.map V.int).length (some 63) - HT.sIx (ns.map V.int).length 0 none) = ms
    have e0 : cutV (ns.map V.int) none (some 63) = ms.map V.int := by rw [← hms, List.map_take, List.map_drop] <;> rfl
    rw [e0]
    have hml : ms.length ≤ 63 := by
      rw [← hms, List.length_take, show (63 : Int) = ((63 : Nat) : Int) from rfl, HT.sIx_nat]
      omega
    refine ⟨p, rfl, ⟨_, SqL.of upd_same⟩, fun D nD => ?_⟩
    have nDp : D ≠ p := by
      rintro rfl
      rw [upd_same] at nD
      cases nD
    have nD0 : H D = none := by rwa [upd_ne nDp] at nD
    have sz : (1000 : Nat) < sizeLine := by rw [sizeLine_eq]; decide
    refine lc_list (xs := ms.map V.int) (fun i H' => Same H H' ∧ H' p = some (.lst (ms.map V.int)) ∧ H' D = some (.lst ((ms.take i).map V.int))) ?_ ?_ ?_ ?_
    · refine ⟨fun b o e => ?_, ?_, upd_same⟩
      · rw [upd_ne (ne_of_none e nD0), upd_ne (ne_of_none e np)]
        exact e
      · rw [upd_ne (Ne.symm nDp), upd_same]
    · rintro i H' hi ⟨_, hp, _⟩
      exact SqL.of hp
    · rintro i x H' hx ⟨sm, hp, hD⟩
      obtain ⟨v, hv, rfl⟩ : ∃ v, ms[i]? = some v ∧ x = .int v := by
        rw [List.getElem?_map] at hx
        cases q : ms[i]? with
        | none => rw [q] at hx; cases hx
        | some v => rw [q] at hx; injection hx with hx; exact ⟨v, rfl, hx.symm⟩
      refine ⟨rfl, ?_⟩
      apply yes
      refine ⟨_, rfl, .inl ⟨v, rfl, _, hD, by rw [List.length_map, List.length_take]; omega, fun b o e => ?_, ?_, ?_⟩⟩
      · rw [upd_ne (ne_of_none e nD0)]
        exact sm _ _ e
      · rw [upd_ne (Ne.symm nDp)]
        exact hp
      · have e1 : ms.take (i + 1) = ms.take i ++ [v] := by rw [List.take_add_one, hv] <;> rfl
        rw [upd_same, e1, List.map_append] <;> rfl
    · rintro H2 ⟨sm, hp, hD⟩
      rw [List.length_map, List.take_length] at hD
      refine ⟨_, rfl, _, _, rfl, rfl, .inl ⟨by decide, by decide⟩, _, _, rfl, rfl, ?_⟩
      refine ⟨fun σ H' => H' = H2 ∧ ∃ tot cl, σ = [some (.ref a), some (.int pl), some (.ref D), some (.int tot), cl, none, none], ?_, ?_⟩
      · refine ⟨_, rfl, D, rfl, ⟨_, SqL.of hD⟩, ?_⟩
        refine for_list (xs := ms.map V.int) (fun i σ H' => H' = H2 ∧ ∃ tot cl, σ = [some (.ref a), some (.int pl), some (.ref D), some (.int tot), cl, none, none]) ⟨rfl, _, _, rfl⟩ ?_ ?_ ?_
        · rintro i σ _ hi ⟨rfl, _⟩
          exact SqL.of hD
        · rintro i x _ H2 hx ⟨rfl, tot, cl, rfl⟩
          obtain ⟨v, rfl⟩ : ∃ v, x = .int v := by
            rw [List.getElem?_map] at hx
            cases q : ms[i]? with
            | none => rw [q] at hx; cases hx
            | some v => rw [q] at hx; injection hx with hx; exact ⟨v, hx.symm⟩
          exact ⟨_, rfl, _, _, rfl, rfl, .inr ⟨by decide, by decide⟩, _, rfl, _, rfl, _, _, rfl, rfl, .inl ⟨_, rfl, _, _, rfl, rfl, by show (0 : Int) < 1000003; decide, rfl, _, _, rfl⟩⟩
        · rintro σ H' h
          exact h
      · rintro _ H2 ⟨rfl, tot, cl, rfl⟩
        have fin : ∀ (x n r : Int) (q : Addr), H2 q = none → Q (.ref q) (upd H2 q (.lst [.int x, .int n, .int r])) := fun x n r q nq => by
          have nq0 : H q = none := by
            cases z : H q with
            | none => rfl
            | some o => rw [sm _ _ z] at nq; cases nq
          refine k q _ (fun b o e => ?_) nq0 ⟨x, n, r, upd_same⟩
          rw [upd_ne (ne_of_none e nq0)]
          exact sm _ _ e
        refine ⟨_, rfl, _, rfl, D, _, rfl, .inl (SqL.of hD), _, _, rfl, rfl, _, rfl, ?_⟩
        refine iteC (fun _ => ⟨_, rfl, by show 3 ≤ sizeLine; decide, fun q nq => fin _ _ _ q nq⟩) (fun hlt => ?_)
        rw [List.length_map] at hlt
        have hpl : pl < ms.length := by omega
        have hat : atI (ms.map V.int) (pl : Int) = some (.int ms[pl]) := atI_nat (by rw [List.getElem?_map, List.getElem?_eq_getElem hpl] <;> rfl)
        refine ⟨_, rfl, _, rfl, D, _, _, _, rfl, rfl, SqL.of hD, hat, _, rfl, ?_⟩
        refine ⟨fun σ H' => H' = H2 ∧ ∃ gr num, σ = [some (.ref a), some (.int pl), some (.ref D), some (.int tot), cl, some (.int gr), some (.int num)], ?_, ?_⟩
        · refine ⟨_, rfl, _, _, rfl, rfl, .inl ⟨by decide, by decide⟩, _, rfl, _, rfl, D, _, _, _, rfl, rfl, SqL.of hD, hat, _, _, rfl, rfl, _, rfl, ?_⟩
          refine iteC (fun _ => ⟨_, _, rfl, rfl, rfl, _, _, rfl⟩) (fun _ => ⟨_, _, rfl, rfl, rfl, _, _, rfl⟩)
        · rintro _ H2 ⟨rfl, gr, num, rfl⟩
          refine ⟨_, rfl, _, _, rfl, rfl, ⟨by decide, by decide, by decide⟩, _, _, rfl, rfl, _, rfl, ?_⟩
          refine iteC (fun _ => ⟨_, rfl, _, rfl, by show 3 ≤ sizeLine; decide, fun q nq => fin _ _ _ q nq⟩) (fun _ => ?_)
          exact ⟨_, rfl, _, rfl, _, _, rfl, rfl, .inl ⟨by decide, by decide⟩, _, _, rfl, rfl, by show 3 ≤ sizeLine; decide, fun q nq => fin _ _ _ q nq⟩
end
end K80

set_option Elab.async false
set_option linter.all false
set_option maxRecDepth 100000
set_option maxHeartbeats 4000000
/-! V12: lemmas of the jar, of data in the heap, of pools. -/
namespace K80
open PySem PySem.Spec PyProof.Rows L2 DD
theorem JarAt.keep {H H' : Hp} {j p : Addr} (h : JarAt H j) (hp : H p = none) (s : ∀ b, b ≠ p → H' b = H b) : JarAt H' j := by
  obtain ⟨x, n, r, q⟩ := h
  exact ⟨x, n, r, by rw [s j (ne_of_none q hp)]; exact q⟩
theorem JarAt.upd {H : Hp} {j p : Addr} {o : HO} (h : JarAt H j) (hp : H p = none) : JarAt (L2.upd H p o) j := h.keep hp fun b hb => upd_ne hb
theorem JarAt.ne {H : Hp} {j p : Addr} (h : JarAt H j) (hp : H p = none) : j ≠ p := by
  obtain ⟨x, n, r, q⟩ := h
  exact ne_of_none q hp
theorem KeepB.freeJ {H H' : Hp} {j p : Addr} (h : KeepB H H' j) (hj : JarAt H' j) (hp : H' p = none) : H p = none := by
  obtain ⟨x, n, r, q⟩ := hj
  exact h.free q hp
theorem fits_small {v : Int} {f : Nat} (h : v.natAbs < 10 ^ f) (hf : f ≤ 1500) : fitsI v = true := decide_eq_true (Nat.lt_of_lt_of_le h (Nat.pow_le_pow_right (by decide) hf))
theorem DAt.keepJ {H H' : Hp} {j : Addr} {d : D} {v : V} (hj : JarAt H j) (h : KeepB H H' j) (x : DAt H d v) : DAt H' d v := DAt.mono (fun b xs e => h b _ e fun z => by
  obtain ⟨a, n, r, q⟩ := hj
  rw [z, q] at e
  cases e) x
theorem DAt.new {H : Hp} {p : Addr} {o : HO} {d : D} {v : V} (n : H p = none) (x : DAt H d v) : DAt (L2.upd H p o) d v := DAt.mono (fun b xs e => by rw [upd_ne (ne_of_none e n)]; exact e) x
theorem DAt.tup {H : Hp} {p : Addr} {l : List D} {xs : List V} (n : H p = none) (x : DAts H l xs) : DAt (L2.upd H p (.tup xs)) (.tup l) (.ref p) := by
  unfold DAt
  exact ⟨p, xs, rfl, upd_same, DAts.mono (fun b ys e => by rw [upd_ne (ne_of_none e n)]; exact e) x⟩
theorem DAts.cons {H : Hp} {d : D} {v : V} {l : List D} {xs : List V} (h : DAt H d v) (x : DAts H l xs) : DAts H (d :: l) (v :: xs) := by
  unfold DAts
  exact ⟨v, xs, rfl, h, x⟩
theorem dp_flat {d : D} (h : isTup d = false) : dp d = 0 := by
  cases d with
  | tup l => cases h
  | _ => rw [dp.eq_def]
theorem nd_flat {d : D} (h : isTup d = false) : nd d = 1 := by
  cases d with
  | tup l => cases h
  | _ => rw [nd.eq_def]
def PAt (H : Hp) (d : D) (t : V) : Prop := ∃ a v, t = .ref a ∧ H a = some (.tup [v, .int ((dp d : Nat) : Int)]) ∧ DAt H d v
def PAts (H : Hp) (ds : List D) (ts : List V) : Prop := ts.length = ds.length ∧ ∀ (i : Nat) (d : D), ds[i]? = some d → ∃ t, ts[i]? = some t ∧ PAt H d t
theorem PAt.mono {H H' : Hp} (h : ∀ a xs, H a = some (.tup xs) → H' a = some (.tup xs)) {d : D} {t : V} (x : PAt H d t) : PAt H' d t := by
  obtain ⟨a, v, e, ha, hd⟩ := x
  exact ⟨a, v, e, h _ _ ha, DAt.mono h hd⟩
theorem PAts.mono {H H' : Hp} (h : ∀ a xs, H a = some (.tup xs) → H' a = some (.tup xs)) {ds : List D} {ts : List V} (x : PAts H ds ts) : PAts H' ds ts :=
  ⟨x.1, fun i d e => by
    obtain ⟨t, h1, h2⟩ := x.2 i d e
    exact ⟨t, h1, PAt.mono h h2⟩⟩
theorem PAts.nil {H : Hp} : PAts H [] [] := ⟨rfl, fun i d e => by simp at e⟩
theorem PAts.snoc {H : Hp} {ds : List D} {ts : List V} {d : D} {t : V} (x : PAts H ds ts) (y : PAt H d t) : PAts H (ds ++ [d]) (ts ++ [t]) := by
  refine ⟨by rw [List.length_append, List.length_append, x.1] <;> rfl, fun i e h => ?_⟩
  by_cases hi : i < ds.length
  · rw [List.getElem?_append_left hi] at h
    obtain ⟨u, h1, h2⟩ := x.2 i e h
    exact ⟨u, by rw [List.getElem?_append_left (by rw [x.1]; exact hi)]; exact h1, h2⟩
  · rw [List.getElem?_append_right (by omega)] at h
    have : i - ds.length = 0 := by
      cases q : i - ds.length with
      | zero => rfl
      | succ n => rw [q] at h; simp at h
    rw [this] at h
    have he : d = e := by simpa using h
    subst he
    exact ⟨t, by rw [List.getElem?_append_right (by rw [x.1]; omega), x.1, this] <;> rfl, y⟩
theorem PAts.take {H : Hp} {ds : List D} {ts : List V} (n : Nat) (x : PAts H ds ts) : PAts H (ds.take n) (ts.take n) := by
  refine ⟨by rw [List.length_take, List.length_take, x.1], fun i d h => ?_⟩
  rw [List.getElem?_take] at h ⊢
  split at h
  · rename_i hi
    rw [if_pos hi]
    exact x.2 i d h
  · cases h
theorem PAts.drop {H : Hp} {ds : List D} {ts : List V} (n : Nat) (x : PAts H ds ts) : PAts H (ds.drop n) (ts.drop n) := by
  refine ⟨by rw [List.length_drop, List.length_drop, x.1], fun i d h => ?_⟩
  rw [List.getElem?_drop] at h ⊢
  exact x.2 _ d h
/-- the values of the pool's parts -/
theorem PAts.vals {H : Hp} : ∀ {ds : List D} {ts : List V}, PAts H ds ts → ∃ xs, DAts H ds xs ∧ ∀ (i : Nat) (t : V), ts[i]? = some t → ∃ a z w, t = .ref a ∧ H a = some (.tup [z, w]) ∧ xs[i]? = some z
  | [], ts, x => by
    have : ts = [] := List.length_eq_zero_iff.mp x.1
    subst this
    exact ⟨[], DAts.nil, fun i t e => by simp at e⟩
  | d :: ds, [], x => by
    have := x.1
    simp at this
  | d :: ds, t :: ts, x => by
    obtain ⟨u, h1, a, v, e, ha, hd⟩ := x.2 0 d rfl
    have hu : t = u := by simpa using h1
    subst hu
    have y : PAts H ds ts := ⟨by have := x.1; simpa using this, fun i d' e' => by
      obtain ⟨u', g1, g2⟩ := x.2 (i + 1) d' (by simpa using e')
      exact ⟨u', by simpa using g1, g2⟩⟩
    obtain ⟨xs, hx, hy⟩ := PAts.vals y
    refine ⟨v :: xs, DAts.cons hd hx, fun i t' e' => ?_⟩
    cases i with
    | zero =>
      have : t = t' := by simpa using e'
      subst this
      exact ⟨a, v, _, e, ha, rfl⟩
    | succ i =>
      obtain ⟨a', z, w', k1, k2, k3⟩ := hy i t' (by simpa using e')
      exact ⟨a', z, w', k1, k2, by simpa using k3⟩
theorem PAts.deps {H : Hp} {ds : List D} {ts : List V} (x : PAts H ds ts) (i : Nat) (t : V) (e : ts[i]? = some t) : ∃ a z w, t = .ref a ∧ H a = some (.tup [z, w]) ∧ (ds.map fun d => V.int ((dp d : Nat) : Int))[i]? = some w := by
  have hi : i < ds.length := by rw [← x.1]; exact (List.getElem?_eq_some_iff.mp e).1
  obtain ⟨u, h1, a, v, e2, ha, _⟩ := x.2 i _ (List.getElem?_eq_getElem hi)
  have : t = u := Option.some.inj (e.symm.trans h1)
  subst this
  exact ⟨a, v, _, e2, ha, by rw [List.getElem?_map, List.getElem?_eq_getElem hi] <;> rfl⟩
/-- the greatest depth -/
theorem dps_max : ∀ (ds : List D) (m : Int), m ∈ (0 : Int) :: ds.map (fun d => ((dp d : Nat) : Int)) → (∀ y, y ∈ (0 : Int) :: ds.map (fun d => ((dp d : Nat) : Int)) → y ≤ m) → m = ((dps ds : Nat) : Int)
  | [], m, h, _ => by
    have : m = 0 := by simpa using h
    rw [this, dps] <;> rfl
  | d :: ds, m, h, hu => by
    rw [dps]
    have hm0 : 0 ≤ m := hu 0 List.mem_cons_self
    have hmd : ((dp d : Nat) : Int) ≤ m := hu _ (by simp)
    by_cases q : m ∈ (0 : Int) :: ds.map (fun d => ((dp d : Nat) : Int))
    · have := dps_max ds m q (fun y hy => hu y (by
        rcases List.mem_cons.mp hy with rfl | hy
        · exact List.mem_cons_self
        · exact List.mem_cons_of_mem _ (List.mem_cons_of_mem _ hy)))
      omega
    · have hmd2 : m = ((dp d : Nat) : Int) := by
        rcases List.mem_cons.mp h with rfl | h
        · exact absurd List.mem_cons_self q
        · rcases List.mem_cons.mp h with h | h
          · exact h
          · exact absurd (List.mem_cons_of_mem _ h) q
      -- the others are below
      have hle : ∀ l : List D, (∀ y, y ∈ l.map (fun d => ((dp d : Nat) : Int)) → y ≤ m) → ((dps l : Nat) : Int) ≤ m := fun l => by
        induction l with
        | nil => intro _; rw [dps]; exact hm0
        | cons e l ih =>
          intro hy
          have h1 : ((dp e : Nat) : Int) ≤ m := hy _ List.mem_cons_self
          have h2 := ih fun y hz => hy y (List.mem_cons_of_mem _ hz)
          rw [dps]
          omega
      have := hle ds fun y hy => hu y (List.mem_cons_of_mem _ (List.mem_cons_of_mem _ hy))
      omega
theorem lc_col {K : PySem.W.Frag} {σ : L2.St} {H1 : Hp} {D p : Addr} {ts out : List V} {k : Int} {Qd : Hp → Prop} (c : Nat) (h1 : ∀ t, ((wipe σ [c]).set c (some t))[c]? = some (some t)) (h2 : ∀ t, wipe ((wipe σ [c]).set c (some t)) [c] = wipe σ [c])
    (hp : H1 p = some (.lst ts)) (nD : H1 D = none) (hl : ts.length < sizeLine) (ho : out.length = ts.length) (hc : ∀ (i : Nat) (t : V), ts[i]? = some t → ∃ a xs z, t = .ref a ∧ H1 a = some (.tup xs) ∧ atI xs k = some z ∧ out[i]? = some z) (h : Qd (L2.upd H1 D (.lst out))) :
    ∃ W : Nat → Nat → Hp → Prop, (∃ m, W 0 m (L2.upd H1 D (.lst []))) ∧ ∀ i m H, W i m H →
      ((Itl K p).stop i H ∧ Qd H) ∨ ((Itl K p).go i H ∧ ∃ Nx : Hp → Prop, (∀ H', Nx H' → ∃ m', m' < m ∧ W (i + 1) m' H') ∧ ∀ x H', (Itl K p).yld i H x H' → gName c x (wipe σ [c]) H' fun σ2 H2 => wipe σ2 [c] = wipe σ [c] ∧ tYes σ2 H2 fun b H3 =>
        if b = true then tOp (rIxT K) (tVar c) (tC (.int k)) σ2 H3 fun y H4 => ∃ acc, H4 D = some (.lst acc) ∧ acc.length < sizeLine ∧ Nx (L2.upd H4 D (.lst (acc ++ [y]))) else Nx H3) := by
  have nDp : p ≠ D := ne_of_none hp nD
  refine lc_list (xs := ts) (fun i H' => H' = L2.upd H1 D (.lst (out.take i))) rfl ?_ ?_ ?_
  · rintro i _ hi rfl
    exact SqL.of (by rw [upd_ne nDp]; exact hp)
  · rintro i x _ hx rfl
    obtain ⟨a, xs, z, rfl, ha, hz, hoz⟩ := hc i x hx
    have nDa : a ≠ D := ne_of_none ha nD
    refine ⟨h2 _, ?_⟩
    apply yes
    refine ⟨_, h1 _, a, xs, k, z, rfl, rfl, SqT.of (by rw [upd_ne nDa]; exact ha), hz, out.take i, upd_same, ?_, ?_⟩
    · rw [List.length_take]
      omega
    · have e : out.take (i + 1) = out.take i ++ [z] := by rw [List.take_add_one, hoz] <;> rfl
      rw [e]
      funext b
      by_cases hb : b = D
      · subst hb
        rw [upd_same, upd_same]
      · rw [upd_ne hb, upd_ne hb, upd_ne hb]
  · rintro _ rfl
    rw [← ho, List.take_length]
    exact h
theorem SameN {H : Hp} {p : Addr} {o : HO} (n : H p = none) : Same H (L2.upd H p o) := fun b u e => by
  rw [upd_ne (ne_of_none e n)]
  exact e
theorem SameT {A B C : Hp} (h : Same A B) (k : Same B C) : Same A C := fun b o e => k b o (h b o e)
theorem JarAt.same {H H' : Hp} {j : Addr} (h : JarAt H j) (s : Same H H') : JarAt H' j := by
  obtain ⟨x, n, r, q⟩ := h
  exact ⟨x, n, r, s _ _ q⟩
theorem cutV_drop (ts : List V) {n : Nat} (h : n ≤ ts.length) : cutV ts (some (n : Int)) none = ts.drop n := by
  unfold cutV
  rw [HT.sIx_nat, HT.sIx_none, Nat.min_eq_left h, List.take_of_length_le]
  rw [List.length_drop]
  omega
theorem cutV_take (ts : List V) {n : Nat} (h : n ≤ ts.length) : cutV ts none (some (n : Int)) = ts.take n := by
  unfold cutV
  rw [HT.sIx_nat, HT.sIx_none, Nat.min_eq_left h, List.drop_zero]
  rfl
end K80

set_option Elab.async false
set_option linter.all false
set_option maxRecDepth 100000
set_option maxHeartbeats 4000000
/-! W15: the law's own text of an atom, of data. -/
namespace K80
open PySem PySem.Spec PyProof.Rows L2 DD
theorem joinL_nil : ∀ ts : List (List Nat), TL.joinL [] ts = ts.flatten
  | [] => rfl
  | [x] => by simp [TL.joinL]
  | x :: y :: r => by
    show x ++ ([] ++ TL.joinL [] (y :: r)) = _
    rw [joinL_nil (y :: r)] <;> rfl
section
variable {w : World} {K : PySem.W.Frag} {mg : Str → Option Value} {base : Heap}
def spAtomT : Sp := fun vs H Q _ => ∃ (d : D) (v : V), vs = [v] ∧ isTup d = false ∧ DAt H d v ∧ DB d ∧ ∀ H', Same H H' → Q (.str (S (txt d))) H'
theorem scAt2 : FnScope ["thing", "found", "sign"] ["thing"] (defScope sAtomT) := ⟨rfl, rfl, rfl, by decide +kernel, rfl, by decide +kernel, by decide +kernel⟩
theorem esc1_len (c : Nat) : (esc1 c).length ≤ 2 := by
  unfold esc1
  split
  · exact Nat.le_refl 2
  · split
    · exact Nat.le_refl 2
    · exact Nat.le_succ 1
theorem esc1_sum (z : List Nat) : ((z.map esc1).map (·.length)).sum ≤ 2 * z.length := by
  induction z with
  | nil => exact Nat.le_refl 0
  | cons c z ih =>
    rw [List.map_cons, List.map_cons, List.sum_cons, List.length_cons]
    have := esc1_len c
    omega
theorem esc_len (s : List Nat) : (esc s).length ≤ 2 * s.length := by
  induction s with
  | nil => exact Nat.le_refl 0
  | cons c s ih =>
    unfold esc at ih ⊢
    rw [List.flatMap_cons, List.length_append, List.length_cons]
    have := esc1_len c
    omega
theorem ok_atomT {fd : FuncData} (F : FnG K "_law_atom_text" sAtomT fd) (T : Txt PG w K mg) : FnOk PG w K mg base CX0 1 (He.ga K "_law_atom_text") fd ["thing"] spAtomT := by
  have nd_ := scAt2.nd
  refine F.ok scAt2 (fun vs H Q E h => ?_) (fun cdv A outer s H vs Q E hr h => ⟨_, PSs.nox (
    pss_cons (ps_if (pt_cmpR op_isN (pv 0) pe_non (nomark _)) (pss_one (ps_ret pe_str)) pss_nil) <|
    pss_cons (ps_if (pt_cmpR Q7.op_isK (pv 0) pe_bl (nomark _)) (pss_one (ps_ret pe_str)) pss_nil) <|
    pss_cons (ps_if (pt_cmpR Q7.op_isK (pv 0) pe_bl (nomark _)) (pss_one (ps_ret pe_str)) pss_nil) <|
    pss_cons (ps_if (pt_val (pe_callB call_isi rfl T.n_isinstance boot_isinstance (pa_cons (pv 0) (pa_cons (pe_bltn (v := .ty "int") (u := .type "int") rfl T.n_int (by decide +kernel) rfl) pa_nil)))) (pss_one (ps_ret (pe_callTy (Q7.call_str_big rfl T.nd) (by rfl) T.n_str (by decide +kernel) (pa_cons (pv 0) pa_nil)))) pss_nil) <|
    pss_cons (ps_if (pt_not (pt_val (pe_callB call_isi rfl T.n_isinstance boot_isinstance (pa_cons (pv 0) (pa_cons (pe_bltn (v := .ty "str") (u := .type "str") rfl T.n_str (by decide +kernel) rfl) pa_nil))))) (pss_one (ps_ret pe_str)) pss_nil) <|
    pss_cons (ps_set (i := 1) nd_ rfl (Or.inl rfl) (pe_lst pa_nil)) <|
    pss_cons (ps_for PassesOwn.never rfl (pi_str (pv 0)) (pg_name (i := 2) nd_ rfl (Or.inl rfl)) <|
      pss_one <| ps_if (pt_cmpR op_eq (pv 2) pe_str (nomark _)) (pss_one (ps_expr (pe_bm PySem.F.plainAttrs_list PySem.F.slot_list_append PySem.F.type_list_append mt_append (pv 1) (pa_cons pe_str pa_nil)))) <|
      pss_one <| ps_if (PW.pt (pw_or (pt_cmpR op_eq (pv 2) pe_str (nomark _)) (pw_or1 (pt_cmpR op_eq (pv 2) pe_str (nomark _))))) (pss_one (ps_expr (pe_bm PySem.F.plainAttrs_list PySem.F.slot_list_append PySem.F.type_list_append mt_append (pv 1) (pa_cons (pe_op op_add_str pe_str (pv 2)) pa_nil)))) <|
      pss_one (ps_expr (pe_bm PySem.F.plainAttrs_list PySem.F.slot_list_append PySem.F.type_list_append mt_append (pv 1) (pa_cons (pv 2) pa_nil)))) <|
    pss_one (ps_ret (pe_op op_add_str (pe_op op_add_str pe_str (pe_join pe_str (pv 1))) pe_str))), ?_⟩)
  · obtain ⟨d, v, rfl, _⟩ := h
    rfl
  · obtain ⟨d, v, rfl, ht, hd, hb, k⟩ := h
    have s0 : Same H H := fun _ _ e => e
    have sz : (100000 : Nat) < sizeLine := by rw [sizeLine_eq]; decide
    refine ⟨_, rfl, rfl, _, rfl, ?_⟩
    cases d with
    | non =>
      unfold DAt at hd
      subst hd
      refine iteC (fun _ => ?_) (fun q => absurd rfl q)
      exact k H s0
    | bl b =>
      unfold DAt at hd
      subst hd
      refine iteC (fun q => nomatch q) (fun _ => ?_)
      refine ⟨_, rfl, true, rfl, rfl, _, rfl, ?_⟩
      cases b with
      | true =>
        refine iteC (fun _ => ?_) (fun q => absurd rfl q)
        exact k H s0
      | false =>
        refine iteC (fun q => nomatch q) (fun _ => ?_)
        refine ⟨_, rfl, false, rfl, rfl, _, rfl, ?_⟩
        refine iteC (fun _ => ?_) (fun q => absurd rfl q)
        exact k H s0
    | int i =>
      unfold DAt at hd
      subst hd
      unfold DB at hb
      refine iteC (fun q => nomatch q) (fun _ => ?_)
      refine ⟨_, rfl, true, rfl, rfl, _, rfl, ?_⟩
      refine iteC (fun q => nomatch q) (fun _ => ?_)
      refine ⟨_, rfl, false, rfl, rfl, _, rfl, ?_⟩
      refine iteC (fun q => nomatch q) (fun _ => ?_)
      refine ⟨_, rfl, _, _, _, _, true, rfl, .ty _, .base (.int _), kit_ty (by decide +kernel), true, rfl, ?_⟩
      refine iteT ⟨_, rfl, i, rfl, hb, ?_⟩
      have e : (toString i : Str) = S (txt (.int i)) := by rw [txt]; exact numS i
      exact (congrArg (fun y => Q (V.str y) H) e).mpr (k H s0)
    | str z =>
      unfold DAt at hd
      subst hd
      unfold DB at hb
      refine iteC (fun q => nomatch q) (fun _ => ?_)
      refine ⟨_, rfl, true, rfl, rfl, _, rfl, ?_⟩
      refine iteC (fun q => nomatch q) (fun _ => ?_)
      refine ⟨_, rfl, false, rfl, rfl, _, rfl, ?_⟩
      refine iteC (fun q => nomatch q) (fun _ => ?_)
      refine ⟨_, rfl, _, _, _, _, false, rfl, .ty _, .base (.str _), kit_ty (by decide +kernel), false, rfl, ?_⟩
      refine iteF ⟨_, rfl, _, _, _, _, true, rfl, .ty _, .base (.str _), kit_ty (by decide +kernel), true, rfl, ?_⟩
      show if (!true) = true then _ else _
      refine iteF ⟨Nat.zero_le _, fun p np => ?_⟩
      refine ⟨_, rfl, S z, rfl, for_str (fun i σ H' => Same H H' ∧ (∃ x, σ = [some (.str (S z)), some (.ref p), x]) ∧ H' p = some (.lst (((z.take i).map esc1).map fun t => V.str (S t)))) ⟨SameN np, ⟨_, rfl⟩, by rw [upd_same] <;> rfl⟩ ?_ ?_⟩
      · rintro i c _ H1 hi ⟨sm, ⟨x, rfl⟩, hp⟩
        have hlt : i < z.length := (List.getElem?_eq_some_iff.mp hi).1
        have step : Same H (upd H1 p (.lst ((((z.take i).map esc1).map fun t => V.str (S t)) ++ [V.str (S (esc1 c))]))) ∧ (∃ x, ([some (.str (S z)), some (.ref p), some (.str (S [c]))] : L2.St) = [some (.str (S z)), some (.ref p), x]) ∧ (upd H1 p (.lst ((((z.take i).map esc1).map fun t => V.str (S t)) ++ [V.str (S (esc1 c))]))) p = some (.lst (((z.take (i + 1)).map esc1).map fun t => V.str (S t))) := by
          refine ⟨fun b o e => ?_, ⟨_, rfl⟩, ?_⟩
          · rw [upd_ne (ne_of_none e np)]
            exact sm b o e
          · rw [upd_same, List.take_add_one, hi, List.map_append, List.map_append] <;> rfl
        have hlen : ((((z.take i).map esc1).map fun t => V.str (S t))).length < sizeLine := by
          rw [List.length_map, List.length_map, List.length_take]
          omega
        refine ⟨_, rfl, rfl, _, rfl, ?_⟩
        rw [lit_nl, lit_bs, lit_q]
        refine iteC (fun q => ?_) (fun q => ?_)
        · have hc : c = 10 := Option.some.inj (sg_eq (l := [c]).mp q)
          have e : ("\\n" : Str) = S (esc1 c) := by rw [hc]; decide +kernel
          refine ⟨_, rfl, .inl ⟨rfl, _, SqL.of hp⟩, p, _, _, rfl, rfl, hp, hlen, ?_⟩
          rw [e]
          exact step
        · have hc : c ≠ 10 := fun z => q (by rw [z])
          refine ⟨_, rfl, rfl, _, rfl, ?_⟩
          have two : (c = 92 ∨ c = 34) → S [92] ++ S [c] = S (esc1 c) := fun h => by
            rw [S_app]
            unfold esc1
            rw [if_neg hc, if_pos h] <;> rfl
          have l2 : (S [92]).length + (S [c]).length ≤ sizeLine := by rw [SX.S_len, SX.S_len]; show 2 ≤ sizeLine; omega
          refine iteC (fun q2 => iteT ⟨_, rfl, .inl ⟨rfl, _, SqL.of hp⟩, _, rfl, _, _, rfl, rfl, l2, p, _, _, rfl, rfl, hp, hlen, ?_⟩) (fun q2 => ⟨_, rfl, rfl, _, rfl, ?_⟩)
          · rw [two (.inl (Option.some.inj (sg_eq (l := [c]).mp q2)))]
            exact step
          · refine iteC (fun q3 => ⟨_, rfl, .inl ⟨rfl, _, SqL.of hp⟩, _, rfl, _, _, rfl, rfl, l2, p, _, _, rfl, rfl, hp, hlen, ?_⟩) (fun q3 => ⟨_, rfl, .inl ⟨rfl, _, SqL.of hp⟩, _, rfl, p, _, _, rfl, rfl, hp, hlen, ?_⟩)
            · rw [two (.inr (Option.some.inj (sg_eq (l := [c]).mp q3)))]
              exact step
            · have h92 : c ≠ 92 := fun z => q2 (by rw [z])
              have h34 : c ≠ 34 := fun z => q3 (by rw [z])
              have e : S (esc1 c) = S [c] := by
                unfold esc1
                rw [if_neg hc, if_neg (by omega)]
              rw [e] at step
              exact step
      · rintro _ H1 ⟨sm, ⟨x, rfl⟩, hp⟩
        rw [List.take_length] at hp
        have e0 : (z.map esc1).map (fun t => V.str (S t)) = ((z.map esc1).map S).map V.str := by rw [List.map_map, List.map_map, List.map_map] <;> rfl
        rw [e0] at hp
        have he : TL.joinL [] (z.map esc1) = esc z := by rw [joinL_nil, ← List.flatMap_def] <;> rfl
        have hel := esc_len z
        refine ⟨⟨_, rfl⟩, _, rfl, _, p, (z.map esc1).map S, rfl, rfl, .inl (SqL.of hp), ?_, ?_⟩
        · rw [List.map_map]
          have e1 : ((z.map esc1).map ((fun x : Str => x.length) ∘ S)) = (z.map esc1).map (·.length) := List.map_congr_left fun u _ => SX.S_len u
          rw [e1]
          have e2 := esc1_sum z
          show _ + _ * 0 ≤ 16777216
          omega
        · rw [lit_q, lit_e, SX.join_S, he]
          refine ⟨_, _, rfl, rfl, by rw [SX.S_len, SX.S_len, List.length_singleton]; omega, _, _, rfl, rfl, by rw [str_app_len, SX.S_len, SX.S_len, List.length_singleton]; omega, ?_⟩
          have e : S [34] ++ S (esc z) ++ S [34] = S (txt (.str z)) := by rw [S_app, S_app, txt] <;> rfl
          exact (congrArg (fun y => Q (V.str y) H1) e).mpr (k H1 sm)
    | tup l => cases ht
end
end K80

set_option Elab.async false
set_option linter.all false
set_option maxRecDepth 100000
set_option maxHeartbeats 4000000
/-! W16: the law's own text of data. -/
namespace K80
open PySem PySem.Spec PyProof.Rows L2 DD
/-- what lies on the stack: data whole, or a text -/
inductive I where
  | w (d : D) | t (s : List Nat)
def I.txt : I → List Nat
  | .w d => DD.txt d
  | .t s => s
def I.cost : I → Nat
  | .w d => 4 * nd d - 2
  | .t _ => 1
def I.ok : I → Prop
  | .w d => DB d
  | .t _ => True
def IAt (H : Hp) : I → V → Prop
  | .w d, v => ∃ a u, v = .ref a ∧ H a = some (.tup [.bl true, u]) ∧ DAt H d u
  | .t s, v => ∃ a, v = .ref a ∧ H a = some (.tup [.bl false, .str (S s)])
def IAts (H : Hp) : List I → List V → Prop
  | [], us => us = []
  | x :: st, us => ∃ u r, us = u :: r ∧ IAt H x u ∧ IAts H st r
theorem IAt.mono {H H' : Hp} (h : ∀ a xs, H a = some (.tup xs) → H' a = some (.tup xs)) {x : I} {v : V} (y : IAt H x v) : IAt H' x v := by
  cases x with
  | w d =>
    obtain ⟨a, u, e, ha, hd⟩ := y
    exact ⟨a, u, e, h _ _ ha, DAt.mono h hd⟩
  | t s =>
    obtain ⟨a, e, ha⟩ := y
    exact ⟨a, e, h _ _ ha⟩
theorem IAts.mono {H H' : Hp} (h : ∀ a xs, H a = some (.tup xs) → H' a = some (.tup xs)) : ∀ {st : List I} {us : List V}, IAts H st us → IAts H' st us
  | [], us, y => y
  | x :: st, us, y => by
    obtain ⟨u, r, e, h1, h2⟩ := y
    exact ⟨u, r, e, h1.mono h, h2.mono h⟩
theorem IAts.length {H : Hp} : ∀ {st : List I} {us : List V}, IAts H st us → us.length = st.length
  | [], us, y => by rw [show us = [] from y] <;> rfl
  | x :: st, us, y => by
    obtain ⟨u, r, e, h1, h2⟩ := y
    rw [e, List.length_cons, List.length_cons, h2.length]
/-- the parts of a tuple as they come from the stack -/
def psI : List D → List I
  | [] => []
  | [d] => [.w d]
  | d :: e :: r => .w d :: .t [32] :: psI (e :: r)
theorem psI_txt : ∀ l : List D, (psI l).flatMap I.txt = sepL (txts l)
  | [] => by rw [txts] <;> rfl
  | [d] => by
    rw [txts, txts]
    show txt d ++ [] = txt d
    rw [List.append_nil]
  | d :: e :: r => by
    have h := psI_txt (e :: r)
    rw [txts, txts]
    rw [txts] at h
    show txt d ++ ([32] ++ (psI (e :: r)).flatMap I.txt) = txt d ++ 32 :: sepL (txt e :: txts r)
    rw [h] <;> rfl
def costs (st : List I) : Nat := (st.map I.cost).sum
theorem costs_cons (x : I) (st : List I) : costs (x :: st) = x.cost + costs st := by
  unfold costs
  rw [List.map_cons, List.sum_cons]
theorem costs_append (a b : List I) : costs (a ++ b) = costs a + costs b := by
  unfold costs
  rw [List.map_append, List.sum_append]
theorem psI_cost : ∀ l : List D, costs (psI l) + l.length ≤ 4 * nds l
  | [] => Nat.zero_le _
  | [d] => by
    have := nd_pos d
    have e1 : costs (psI [d]) = 4 * nd d - 2 + 0 := rfl
    rw [e1, nds]
    simp only [List.length_cons, List.length_nil]
    omega
  | d :: e :: r => by
    have := nd_pos d
    have h := psI_cost (e :: r)
    have e1 : costs (psI (d :: e :: r)) = 4 * nd d - 2 + (1 + costs (psI (e :: r))) := by
      show costs (.w d :: .t [32] :: psI (e :: r)) = _
      rw [costs_cons, costs_cons] <;> rfl
    rw [e1, nds]
    simp only [List.length_cons] at h ⊢
    omega
theorem psI_cons (d : D) (l : List D) : psI (d :: l) = .w d :: (if l = [] then [] else .t [32] :: psI l) := by
  cases l with
  | nil => rfl
  | cons e r => rw [if_neg (List.cons_ne_nil _ _)] <;> rfl
theorem psI_ok : ∀ {l : List D}, DBs l → ∀ x ∈ psI l, x.ok
  | [], _, x, h => by cases h
  | d :: l, hb, x, h => by
    unfold DBs at hb
    rw [psI_cons] at h
    rcases List.mem_cons.mp h with rfl | h
    · exact hb.1
    · by_cases e : l = []
      · rw [if_pos e] at h; cases h
      · rw [if_neg e] at h
        rcases List.mem_cons.mp h with rfl | h
        · trivial
        · exact psI_ok hb.2 x h
/-- what lies on the stack behind i turns of the inner loop -/
def stk (l : List D) (i : Nat) : List I := if i = 0 then [] else if i < l.length then .t [32] :: psI (l.drop (l.length - i)) else psI l
theorem stk_step {l : List D} {i : Nat} {d : D} (hi : i < l.length) (e : l[l.length - 1 - i]? = some d) : I.w d :: stk l i = psI (l.drop (l.length - (i + 1))) := by
  have hm : l.length - (i + 1) = l.length - 1 - i := by omega
  obtain ⟨hlt, e2⟩ := List.getElem?_eq_some_iff.mp e
  rw [hm, List.drop_eq_getElem_cons hlt, e2, psI_cons]
  unfold stk
  by_cases h0 : i = 0
  · subst h0
    rw [if_pos rfl, if_pos]
    rw [List.drop_eq_nil_iff]
    omega
  · rw [if_neg h0, if_pos hi, if_neg]
    · rw [show l.length - 1 - i + 1 = l.length - i by omega]
    · rw [List.drop_eq_nil_iff]
      omega
theorem len_costs : ∀ st : List I, st.length ≤ costs st
  | [] => Nat.zero_le _
  | x :: st => by
    have h := len_costs st
    have h1 : 1 ≤ x.cost := by
      cases x with
      | w d =>
        have := nd_pos d
        show 1 ≤ 4 * nd d - 2
        omega
      | t s => exact Nat.le_refl 1
    rw [costs_cons, List.length_cons]
    omega
theorem psI_len : ∀ l : List D, (psI l).length ≤ 2 * l.length
  | [] => Nat.zero_le _
  | d :: l => by
    have h := psI_len l
    rw [psI_cons, List.length_cons, List.length_cons]
    split
    · simp only [List.length_nil]; omega
    · rw [List.length_cons]
      omega
theorem stk_len (l : List D) (i : Nat) : (stk l i).length ≤ 2 * l.length + 1 := by
  unfold stk
  split
  · simp
  · split
    · have h := psI_len (l.drop (l.length - i))
      rw [List.length_drop] at h
      rw [List.length_cons]
      omega
    · have h := psI_len l
      omega
section
variable {w : World} {K : PySem.W.Frag} {mg : Str → Option Value} {base : Heap}
def spDataT : Sp := fun vs H Q _ => ∃ (d : D) (v : V), vs = [v] ∧ DAt H d v ∧ DB d ∧ nd d ≤ 2000 ∧ (txt d).length ≤ 9000000 ∧ ∀ H', Same H H' → Q (.str (S (txt d))) H'
theorem scDt : FnScope ["value", "found", "line", "step", "whole", "thing", "place"] ["value"] (defScope sDataT) := ⟨rfl, rfl, rfl, by decide +kernel, rfl, by decide +kernel, by decide +kernel⟩
theorem ok_dataT {fd : FuncData} (F : FnG K "_law_data_text" sDataT fd) (IA : Id w K mg base 1 (He.ga K "_law_atom_text") ["thing"] spAtomT) (T : Txt PG w K mg) : FnOk PG w K mg base CX0 2 (He.ga K "_law_data_text") fd ["value"] spDataT := by
  obtain ⟨fdA, GA, bA, kA⟩ := IA.ex
  have nd_ := scDt.nd
  refine F.ok scDt (fun vs H Q E h => ?_) (fun cdv A outer s H vs Q E hr h => ⟨_, PSs.nox (
    pss_cons (ps_set (i := 1) nd_ rfl (Or.inl rfl) (pe_lst pa_nil)) <|
    pss_cons (ps_set (i := 2) nd_ rfl (Or.inl rfl) (pe_lst (pa_cons (pe_tup (pa_cons pe_bl (pa_cons (pv 0) pa_nil))) pa_nil))) <|
    pss_cons (ps_for PassesOwn.never rfl (pi_range1 rfl T.n_range (pa_cons pe_int pa_nil)) (pg_name (i := 3) nd_ rfl (Or.inl rfl)) <|
      pss_cons (ps_if (pt_not (pt_truth (pv 2) (by intro _; rfl))) (pss_one (ps_ret (pe_join pe_str (pv 1)))) pss_nil) <|
      pss_cons (ps_asg (pe_bm0 PySem.F.plainAttrs_list PySem.F.slot_list_pop PySem.F.type_list_pop mt_pop (pv 2)) (pg_tup rfl (pgs_cons (pg_name (i := 4) nd_ rfl (Or.inl rfl)) (pgs_cons (pg_name (i := 5) nd_ rfl (Or.inl rfl)) pgs_nil)))) <|
      pss_one <| ps_if (pt_not (pt_val (pv 4))) (pss_one (ps_expr (pe_bm PySem.F.plainAttrs_list PySem.F.slot_list_append PySem.F.type_list_append mt_append (pv 1) (pa_cons (pv 5) pa_nil)))) <|
      pss_one <| ps_if (pt_not (pt_val (pe_callB call_isi rfl T.n_isinstance boot_isinstance (pa_cons (pv 5) (pa_cons (pe_bltn (v := .ty "tuple") (u := .type "tuple") rfl T.n_tuple (by decide +kernel) rfl) pa_nil)))))
        (pss_one (ps_expr (pe_bm PySem.F.plainAttrs_list PySem.F.slot_list_append PySem.F.type_list_append mt_append (pv 1) (pa_cons (pe_call GA hr rfl T.g_l_atom_text kA bA .nil pass0 (pa_cons (pv 5) pa_nil)) pa_nil)))) <|
      pss_cons (ps_expr (pe_bm PySem.F.plainAttrs_list PySem.F.slot_list_append PySem.F.type_list_append mt_append (pv 1) (pa_cons pe_str pa_nil))) <|
      pss_cons (ps_expr (pe_bm PySem.F.plainAttrs_list PySem.F.slot_list_append PySem.F.type_list_append mt_append (pv 2) (pa_cons (pe_tup (pa_cons pe_bl (pa_cons pe_str pa_nil))) pa_nil))) <|
      pss_one (ps_for PassesOwn.never rfl (pi_range1 rfl T.n_range (pa_cons (pe_callB call_len_seq (by rfl) T.n_len boot_len (pa_cons (pv 5) pa_nil)) pa_nil)) (pg_name (i := 6) nd_ rfl (Or.inl rfl)) <|
        pss_cons (ps_expr (pe_bm PySem.F.plainAttrs_list PySem.F.slot_list_append PySem.F.type_list_append mt_append (pv 2) (pa_cons (pe_tup (pa_cons pe_bl (pa_cons (pe_ix ix_tup (pv 5) (pe_op op_sub (pe_op op_sub (pe_callB call_len_seq (by rfl) T.n_len boot_len (pa_cons (pv 5) pa_nil)) pe_int) (pv 6)) (fun _ _ => rfl)) pa_nil))) pa_nil))) <|
        pss_one (ps_if (pt_cmpR op_lt (pv 6) (pe_op op_sub (pe_callB call_len_seq (by rfl) T.n_len boot_len (pa_cons (pv 5) pa_nil)) pe_int) (nomark _)) (pss_one (ps_expr (pe_bm PySem.F.plainAttrs_list PySem.F.slot_list_append PySem.F.type_list_append mt_append (pv 2) (pa_cons (pe_tup (pa_cons pe_bl (pa_cons pe_str pa_nil))) pa_nil)))) pss_nil))) <|
    pss_one (ps_ret pe_str)), ?_⟩)
  · obtain ⟨d, v, rfl, _⟩ := h
    rfl
  · obtain ⟨d, v, rfl, hd, hb, hn, hl, k⟩ := h
    have sz : (100000 : Nat) < sizeLine := by rw [sizeLine_eq]; decide
    refine ⟨Nat.zero_le _, fun f nf => ?_⟩
    refine ⟨_, rfl, by show 2 ≤ sizeLine; omega, fun a0 na0 => ⟨by show 1 ≤ sizeLine; omega, fun p np => ?_⟩⟩
    have sm0 : Same H (upd (upd H f (.lst [])) a0 (.tup [.bl true, v])) := SameT (SameN nf) (SameN na0)
    have np0 : H p = none := by
      cases z : H p with
      | none => rfl
      | some o => rw [sm0 _ _ z] at np; cases np
    have hf1 : (upd (upd H f (.lst [])) a0 (.tup [.bl true, v])) f = some (.lst []) := SameN na0 _ _ upd_same
    have nfp : f ≠ p := ne_of_none hf1 np
    have sm1 : Same H (upd (upd (upd H f (.lst [])) a0 (.tup [.bl true, v])) p (.lst [.ref a0])) := SameT sm0 (SameN np)
    refine ⟨_, rfl, by decide, by decide, ?_⟩
    -- a list at f or p put anew
    have keepF : ∀ {A : Hp} {o : HO}, Same H A → Same H (upd A f o) := fun {A o} s b u e => by
      rw [upd_ne (ne_of_none e nf)]
      exact s b u e
    have keepP : ∀ {A : Hp} {o : HO}, Same H A → Same H (upd A p o) := fun {A o} s b u e => by
      rw [upd_ne (ne_of_none e np0)]
      exact s b u e
    have tupL : ∀ {A : Hp} {q : Addr} {xs ys : List V}, A q = some (.lst xs) → ∀ b zs, A b = some (.tup zs) → upd A q (.lst ys) b = some (.tup zs) := fun {A q xs ys} hq b zs e => by
      rw [upd_ne]
      · exact e
      · rintro rfl
        rw [hq] at e
        cases e
    refine for_range (n := 9000) (fun i σ H' => ∃ (accs : List (List Nat)) (st : List I) (us : List V) (x3 x4 x5 x6 : Option V), σ = [some v, some (.ref f), some (.ref p), x3, x4, x5, x6] ∧ Same H H' ∧ H' f = some (.lst (accs.map fun s => V.str (S s))) ∧ H' p = some (.lst us.reverse) ∧ IAts H' st us ∧ accs.flatten ++ st.flatMap I.txt = txt d ∧ (∀ x ∈ st, x.ok) ∧ costs st + i ≤ 4 * nd d - 2 ∧ accs.length ≤ i) ?_ ?_ ?_
    · refine ⟨[], [.w d], [.ref a0], _, _, _, _, rfl, sm1, ?_, upd_same, ?_, ?_, ?_, Nat.le_refl _, Nat.le_refl _⟩
      · rw [upd_ne nfp, hf1] <;> rfl
      · refine ⟨_, _, rfl, ⟨a0, v, rfl, ?_, DAt.mono (fun b zs e => sm1 _ _ e) hd⟩, rfl⟩
        exact SameN np _ _ upd_same
      · show [] ++ (txt d ++ []) = txt d
        rw [List.nil_append, List.append_nil]
      · intro x hx
        have : x = .w d := by simpa using hx
        rw [this]
        exact hb
    · rintro i _ H1 hi ⟨accs, st, us, x3, x4, x5, x6, rfl, sm, hf, hp, hI, hT, hok, hc, hal⟩
      refine ⟨_, rfl, _, .inl ⟨us.reverse, SqL.of hp, rfl⟩, ?_⟩
      cases st with
      | nil =>
        have hu : us = [] := hI
        subst hu
        show if (!(!([] : List V).isEmpty)) = true then _ else _
        refine iteT ⟨⟨_, rfl⟩, _, rfl, _, f, accs.map S, rfl, rfl, .inl (SqL.of (by rw [hf, List.map_map] <;> rfl)), ?_, ?_⟩
        · have e1 : ((accs.map S).map (·.length)) = accs.map (·.length) := by
            rw [List.map_map]
            exact List.map_congr_left fun u _ => SX.S_len u
          have e2 : (accs.map (·.length)).sum = accs.flatten.length := List.length_flatten.symm
          have e3 : accs.flatten = txt d := by
            rw [← hT]
            show accs.flatten = accs.flatten ++ []
            rw [List.append_nil]
          rw [e1, e2, e3]
          show _ + _ * 0 ≤ 16777216
          omega
        · rw [lit_e, SX.join_S, joinL_nil]
          have e3 : accs.flatten = txt d := by
            rw [← hT]
            show accs.flatten = accs.flatten ++ []
            rw [List.append_nil]
          rw [e3]
          exact k H1 sm
      | cons x st =>
        obtain ⟨u, r, rfl, hu, hI2⟩ := hI
        rw [List.reverse_cons] at hp ⊢
        have he : (r.reverse ++ [u]).isEmpty = false := by simp
        rw [he]
        show if (!(!false)) = true then _ else _
        refine iteF ?_
        have hok2 : ∀ y ∈ st, y.ok := fun y hy => hok y (List.mem_cons_of_mem _ hy)
        have hlast : (r.reverse ++ [u])[(r.reverse ++ [u]).length - 1]? = some u := by
          rw [List.length_append, List.length_singleton, Nat.add_sub_cancel, List.getElem?_append_right (Nat.le_refl _), Nat.sub_self] <;> rfl
        refine ⟨_, rfl, .inl ⟨rfl, _, SqL.of hp⟩, p, _, u, rfl, rfl, hp, hlast, ?_⟩
        rw [List.dropLast_concat]
        have m1 := tupL (ys := r.reverse) hp
        have smP : Same H (upd H1 p (.lst r.reverse)) := keepP sm
        have hfP : (upd H1 p (.lst r.reverse)) f = some (.lst (accs.map fun s => V.str (S s))) := by rw [upd_ne nfp]; exact hf
        have hpP : (upd H1 p (.lst r.reverse)) p = some (.lst r.reverse) := upd_same
        have hIP := hI2.mono m1
        have huP := hu.mono m1
        rw [costs_cons] at hc
        generalize upd H1 p (.lst r.reverse) = G1 at m1 smP hfP hpP hIP huP ⊢
        have hlen : (accs.map fun s => V.str (S s)).length < sizeLine := by rw [List.length_map]; omega
        have hrl := hIP.length
        have mapS : ∀ s : List Nat, (accs.map fun s => V.str (S s)) ++ [V.str (S s)] = (accs ++ [s]).map fun s => V.str (S s) := fun s => by rw [List.map_append] <;> rfl
        have flat1 : ∀ s : List Nat, (accs ++ [s]).flatten = accs.flatten ++ s := fun s => by rw [List.flatten_append] <;> simp
        have hT2 : accs.flatten ++ (x.txt ++ st.flatMap I.txt) = txt d := hT
        cases x with
        | t s =>
          obtain ⟨a, rfl, ha⟩ := huP
          refine ⟨a, _, rfl, SqT.of ha, rfl, _, _, rfl, _, _, rfl, rfl, ?_⟩
          refine ⟨_, rfl, false, rfl, ?_⟩
          refine iteT ⟨_, rfl, .inl ⟨rfl, _, SqL.of hfP⟩, _, rfl, f, _, _, rfl, rfl, hfP, hlen, ?_⟩
          refine ⟨accs ++ [s], st, r, _, _, _, _, rfl, keepF smP, ?_, ?_, hIP.mono (tupL hfP), ?_, hok2, ?_, ?_⟩
          · rw [upd_same, mapS]
          · rw [upd_ne (Ne.symm nfp)]
            exact hpP
          · rw [flat1, List.append_assoc]
            exact hT2
          · have : (I.t s).cost = 1 := rfl
            omega
          · rw [List.length_append, List.length_singleton]
            omega
        | w d1 =>
          obtain ⟨a, v1, rfl, ha, hd1⟩ := huP
          have hb1 : DB d1 := hok _ List.mem_cons_self
          have hnd := nd_pos d1
          have hcost : (I.w d1).cost = 4 * nd d1 - 2 := rfl
          refine ⟨a, _, rfl, SqT.of ha, rfl, _, _, rfl, _, _, rfl, rfl, ?_⟩
          refine ⟨_, rfl, true, rfl, ?_⟩
          show if (!true) = true then _ else _
          refine iteF ?_
          obtain ⟨t0, b0, h1, h2, h3⟩ := isi_tup (K := K) hd1
          refine ⟨_, rfl, _, _, _, _, b0, rfl, .ty _, h1, h2, b0, rfl, ?_⟩
          subst h3
          cases q : isTup d1 with
          | false =>
            show if (!false) = true then _ else _
            refine iteT ⟨_, rfl, .inl ⟨rfl, _, SqL.of hfP⟩, _, rfl, d1, v1, rfl, q, hd1, hb1, fun H2 sm2 => ?_⟩
            have hf2 := sm2 _ _ hfP
            refine ⟨f, _, _, rfl, rfl, hf2, hlen, ?_⟩
            refine ⟨accs ++ [txt d1], st, r, _, _, _, _, rfl, keepF (SameT smP sm2), ?_, ?_, (hIP.mono fun b zs e => sm2 _ _ e).mono (tupL hf2), ?_, hok2, ?_, ?_⟩
            · rw [upd_same, mapS]
            · rw [upd_ne (Ne.symm nfp)]
              exact sm2 _ _ hpP
            · rw [flat1, List.append_assoc]
              exact hT2
            · omega
            · rw [List.length_append, List.length_singleton]
              omega
          | true =>
            cases d1 with
            | tup l =>
              unfold DAt at hd1
              obtain ⟨b, xs, rfl, hb0, hds⟩ := hd1
              have hxl := hds.length
              show if (!true) = true then _ else _
              refine iteF ⟨_, rfl, .inl ⟨rfl, _, SqL.of hfP⟩, f, _, _, rfl, rfl, hfP, hlen, ?_⟩
              have m2 := tupL (ys := (accs.map fun s => V.str (S s)) ++ [V.str (S [40])]) hfP
              have sm3 : Same H (upd G1 f (.lst ((accs.map fun s => V.str (S s)) ++ [V.str (S [40])]))) := keepF smP
              have hf3 : (upd G1 f (.lst ((accs.map fun s => V.str (S s)) ++ [V.str (S [40])]))) f = some (.lst ((accs ++ [[40]]).map fun s => V.str (S s))) := by rw [upd_same, mapS]
              have hp3 : (upd G1 f (.lst ((accs.map fun s => V.str (S s)) ++ [V.str (S [40])]))) p = some (.lst r.reverse) := by rw [upd_ne (Ne.symm nfp)]; exact hpP
              rw [lit_op, lit_cl, lit_sp]
              generalize upd G1 f (.lst ((accs.map fun s => V.str (S s)) ++ [V.str (S [40])])) = G2 at m2 sm3 hf3 hp3 ⊢
              refine ⟨_, rfl, .inl ⟨rfl, _, SqL.of hp3⟩, by show 2 ≤ sizeLine; omega, fun c nc => ?_⟩
              have s4 : Same G2 (upd G2 c (.tup [.bl false, .str (S [41])])) := SameN nc
              have hc4 : (upd G2 c (.tup [.bl false, .str (S [41])])) c = some (.tup [.bl false, .str (S [41])]) := upd_same
              generalize upd G2 c (.tup [.bl false, .str (S [41])]) = G3 at s4 hc4 ⊢
              have hp4 := s4 _ _ hp3
              have hf4 := s4 _ _ hf3
              have hlc := len_costs st
              have hrb : r.length < 20000 := by omega
              refine ⟨p, _, _, rfl, rfl, hp4, by rw [List.length_reverse]; omega, ?_⟩
              have m5 := tupL (ys := r.reverse ++ [.ref c]) hp4
              have sm5 : Same H (upd G3 p (.lst (r.reverse ++ [.ref c]))) := keepP (SameT sm3 s4)
              have hf5 : (upd G3 p (.lst (r.reverse ++ [.ref c]))) f = some (.lst ((accs ++ [[40]]).map fun s => V.str (S s))) := by rw [upd_ne nfp]; exact hf4
              have hp5 : (upd G3 p (.lst (r.reverse ++ [.ref c]))) p = some (.lst (V.ref c :: r).reverse) := by rw [upd_same, List.reverse_cons]
              have hI5 : IAts (upd G3 p (.lst (r.reverse ++ [.ref c]))) (.t [41] :: st) (.ref c :: r) := ⟨_, _, rfl, ⟨c, rfl, m5 _ _ hc4⟩, hIP.mono fun b' zs e => m5 _ _ (s4 _ _ (m2 _ _ e))⟩
              have hb5 : (upd G3 p (.lst (r.reverse ++ [.ref c]))) b = some (.tup xs) := m5 _ _ (s4 _ _ (m2 _ _ hb0))
              have hd5 : DAts (upd G3 p (.lst (r.reverse ++ [.ref c]))) l xs := DAts.mono (fun b' zs e => m5 _ _ (s4 _ _ (m2 _ _ e))) hds
              generalize upd G3 p (.lst (r.reverse ++ [.ref c])) = G5 at m5 sm5 hf5 hp5 hI5 hb5 hd5 ⊢
              have hcl := psI_cost l
              have hndt : nd (.tup l) = 1 + nds l := nd_tup l
              refine ⟨_, rfl, b, xs, rfl, .inr (SqT.of hb5), _, rfl, by omega, by omega, ?_⟩
              refine for_range (n := xs.length) (fun i' σ H' => ∃ (us' : List V) (x6 : Option V), σ = [some v, some (.ref f), some (.ref p), some (.int (0 + (i : Int))), some (.bl true), some (.ref b), x6] ∧ Same H H' ∧ H' f = some (.lst ((accs ++ [[40]]).map fun s => V.str (S s))) ∧ H' p = some (.lst us'.reverse) ∧ IAts H' (stk l i' ++ (.t [41] :: st)) us' ∧ H' b = some (.tup xs) ∧ DAts H' l xs) ⟨_, _, rfl, sm5, hf5, hp5, hI5, hb5, hd5⟩ ?_ ?_
              · rintro i' _ H2 hi' ⟨us', x6, rfl, sm', hf', hp', hI', hb', hd'⟩
                have hil : i' < l.length := by omega
                have hix : xs.length - 1 - i' < xs.length := by omega
                obtain ⟨dd, hdd, hdv⟩ := DAts.get hd' (List.getElem?_eq_getElem hix)
                have e1 : (xs.length : Int) - 1 - (0 + (i' : Int)) = ((xs.length - 1 - i' : Nat) : Int) := by omega
                have hus := hI'.length
                have hsl := stk_len l i'
                rw [List.length_append, List.length_cons] at hus
                have hub : us'.length < 90000 := by omega
                refine ⟨_, rfl, .inl ⟨rfl, _, SqL.of hp'⟩, _, rfl, _, rfl, b, xs, rfl, .inr (SqT.of hb'), _, _, rfl, rfl, _, rfl, _, _, rfl, rfl, b, xs, _, xs[xs.length - 1 - i'], rfl, rfl, SqT.of hb', ?_, by show 2 ≤ sizeLine; omega, fun g ng => ?_⟩
                · show atI xs ((xs.length : Int) - 1 - (0 + (i' : Int))) = _
                  rw [e1]
                  exact atI_nat (List.getElem?_eq_getElem hix)
                have s6 : Same H2 (upd H2 g (.tup [.bl true, xs[xs.length - 1 - i']])) := SameN ng
                have hg6 : (upd H2 g (.tup [.bl true, xs[xs.length - 1 - i']])) g = some (.tup [.bl true, xs[xs.length - 1 - i']]) := upd_same
                generalize upd H2 g (.tup [.bl true, xs[xs.length - 1 - i']]) = G6 at s6 hg6 ⊢
                have hp6 := s6 _ _ hp'
                refine ⟨p, _, _, rfl, rfl, hp6, by rw [List.length_reverse]; omega, ?_⟩
                have m7 := tupL (ys := us'.reverse ++ [.ref g]) hp6
                have sm7 : Same H (upd G6 p (.lst (us'.reverse ++ [.ref g]))) := keepP (SameT sm' s6)
                have hf7 : (upd G6 p (.lst (us'.reverse ++ [.ref g]))) f = some (.lst ((accs ++ [[40]]).map fun s => V.str (S s))) := by rw [upd_ne nfp]; exact s6 _ _ hf'
                have hp7 : (upd G6 p (.lst (us'.reverse ++ [.ref g]))) p = some (.lst (V.ref g :: us').reverse) := by rw [upd_same, List.reverse_cons]
                have mm : ∀ b' zs, H2 b' = some (.tup zs) → (upd G6 p (.lst (us'.reverse ++ [.ref g]))) b' = some (.tup zs) := fun b' zs e => m7 _ _ (s6 _ _ e)
                have hI7 : IAts (upd G6 p (.lst (us'.reverse ++ [.ref g]))) (psI (l.drop (l.length - (i' + 1))) ++ (.t [41] :: st)) (.ref g :: us') := by
                  rw [← stk_step hil (by rw [← hxl]; exact hdd)]
                  exact ⟨_, _, rfl, ⟨g, _, rfl, m7 _ _ hg6, DAt.mono mm hdv⟩, hI'.mono mm⟩
                have hb7 := mm _ _ hb'
                have hd7 := DAts.mono mm hd'
                generalize upd G6 p (.lst (us'.reverse ++ [.ref g])) = G7 at m7 sm7 hf7 hp7 hI7 hb7 hd7 ⊢
                refine ⟨_, rfl, _, rfl, b, xs, rfl, .inr (SqT.of hb7), _, _, rfl, rfl, _, _, rfl, rfl, _, rfl, ?_⟩
                refine iteC (fun hlt => ?_) (fun hlt => ?_)
                · refine ⟨_, rfl, .inl ⟨rfl, _, SqL.of hp7⟩, by show 2 ≤ sizeLine; omega, fun h nh => ?_⟩
                  have s8 : Same G7 (upd G7 h (.tup [.bl false, .str (S [32])])) := SameN nh
                  have hh8 : (upd G7 h (.tup [.bl false, .str (S [32])])) h = some (.tup [.bl false, .str (S [32])]) := upd_same
                  generalize upd G7 h (.tup [.bl false, .str (S [32])]) = G8 at s8 hh8 ⊢
                  have hp8 := s8 _ _ hp7
                  refine ⟨p, _, _, rfl, rfl, hp8, by rw [List.length_reverse, List.length_cons]; omega, ?_⟩
                  have m9 := tupL (ys := (V.ref g :: us').reverse ++ [.ref h]) hp8
                  refine ⟨.ref h :: .ref g :: us', _, rfl, keepP (SameT sm7 s8), ?_, ?_, ?_, m9 _ _ (s8 _ _ hb7), DAts.mono (fun b' zs e => m9 _ _ (s8 _ _ e)) hd7⟩
                  · rw [upd_ne nfp]
                    exact s8 _ _ hf7
                  · rw [upd_same, ← List.reverse_cons]
                  · have e2 : stk l (i' + 1) = .t [32] :: psI (l.drop (l.length - (i' + 1))) := by
                      unfold stk
                      rw [if_neg (by omega), if_pos (by omega)]
                    rw [e2]
                    exact ⟨_, _, rfl, ⟨h, rfl, m9 _ _ hh8⟩, hI7.mono fun b' zs e => m9 _ _ (s8 _ _ e)⟩
                · refine ⟨_, _, rfl, sm7, hf7, hp7, ?_, hb7, hd7⟩
                  have e2 : stk l (i' + 1) = psI (l.drop (l.length - (i' + 1))) := by
                    unfold stk
                    rw [if_neg (by omega), if_neg (by omega), show l.length - (i' + 1) = 0 by omega, List.drop_zero]
                  rw [e2]
                  exact hI7
              · rintro _ H2 ⟨us', x6, rfl, sm', hf', hp', hI', hb', hd'⟩
                have e2 : stk l xs.length = psI l := by
                  unfold stk
                  by_cases h0 : xs.length = 0
                  · rw [if_pos h0]
                    have : l = [] := List.length_eq_zero_iff.mp (by omega)
                    rw [this] <;> rfl
                  · rw [if_neg h0, if_neg (by omega)]
                rw [e2] at hI'
                refine ⟨accs ++ [[40]], psI l ++ (.t [41] :: st), us', _, _, _, _, rfl, sm', hf', hp', hI', ?_, ?_, ?_, ?_⟩
                · rw [flat1, List.flatMap_append, psI_txt, ← hT2]
                  show accs.flatten ++ [40] ++ (sepL (txts l) ++ ([41] ++ st.flatMap I.txt)) = accs.flatten ++ (txt (.tup l) ++ st.flatMap I.txt)
                  rw [txt]
                  simp
                · intro y hy
                  rcases List.mem_append.mp hy with hy | hy
                  · exact psI_ok (by unfold DB at hb1; exact hb1) y hy
                  · rcases List.mem_cons.mp hy with rfl | hy
                    · trivial
                    · exact hok2 y hy
                · rw [costs_append, costs_cons]
                  have : (I.t [41]).cost = 1 := rfl
                  omega
                · rw [List.length_append, List.length_singleton]
                  omega
            | _ => cases q
    · rintro _ H1 ⟨accs, st, us, x3, x4, x5, x6, rfl, sm, hf, hp, hI, hT, hok, hc, hal⟩
      omega
end
end K80

set_option Elab.async false
set_option linter.all false
set_option maxRecDepth 100000
set_option maxHeartbeats 4000000
/-! Y3 (k80): the helpers of the law's machine. -/
namespace Q7
open PySem PySem.Spec PyProof.Rows L2 PySem.W
theorem op_isNotK {X : Cx} : OpR X (compareOp .IsNot) (fun x y H Q => ∃ k, y = .bl k ∧ flat4 x = true ∧ Q (.bl (!decide (x = .bl k))) H) := by
  intro pins s σ H x y v u Q I rx ry h
  obtain ⟨k, rfl, hf, q⟩ := h
  cases (show u = Value.bool k from ry)
  have e := RelV.bool_iff (k := k) rx
  refine wpAny_isNot_plain ?_ (by rw [e]; exact ⟨.bl _, H, I, rfl, q⟩)
  cases x <;> first
    | (cases (show v = Value.none from rx); rfl)
    | (cases (show v = Value.bool _ from rx); rfl)
    | (obtain ⟨t, rfl⟩ := (show ∃ t, v = Value.int _ t from rx); rfl)
    | (obtain ⟨t, rfl⟩ := (show ∃ t, v = Value.str _ t from rx); rfl)
    | cases hf
end Q7
namespace K80
open PySem PySem.Spec PyProof.Rows L2 DD
def mdS : Md → Str
  | .val => "value"
  | .fst => "first"
  | .txt => "text"
  | .esc => "escape"
  | .word => "word"
  | .num => "number"
  | .beh => "behind"
theorem mdS_eq (a b : Md) : decide (V.str (mdS a) = V.str (mdS b)) = decide (a = b) := by
  have inj : mdS a = mdS b → a = b := by
    cases a <;> cases b <;> first
      | exact fun _ => rfl
      | exact fun z => absurd z (by decide +kernel)
  exact decide_eq_decide.mpr ⟨fun z => inj (V.str.inj z), fun z => by rw [z]⟩
theorem eqS {c d : Nat} : (V.str (S [c]) = V.str (S [d])) ↔ c = d := ⟨fun z => Option.some.inj (sg_eq (l := [c]).mp z), fun z => by rw [z]⟩
theorem eqL {a b : List Nat} : (V.str (S a) = V.str (S b)) ↔ a = b := ⟨fun z => SX.S_inj (V.str.inj z), fun z => by rw [z]⟩
theorem lit_co : (("-0123456789" : Str)).cps.toList = [45, 48, 49, 50, 51, 52, 53, 54, 55, 56, 57] := by decide +kernel
theorem lit_19 : (("123456789" : Str)).cps.toList = [49, 50, 51, 52, 53, 54, 55, 56, 57] := by decide +kernel
theorem lit_spcl : ((" )" : Str)).cps.toList = [32, 41] := by decide +kernel
section
variable {w : World} {K : PySem.W.Frag} {mg : Str → Option Value} {base : Heap}
/-! ### in_text -/
def spInText : Sp := fun vs H Q _ => ∃ (md : Md) (c : Nat) (got : List Nat), vs = [.str (mdS md), .str (S [c]), .str (S got)] ∧ (md = .txt ∨ md = .esc) ∧ (md = .txt → c ≠ 34) ∧ got.length ≤ 100000 ∧
  ∃ (stk : List (List D)) (bg r : List Nat), (∀ x, stepM c r ⟨stk, md, got, bg⟩ = .stop x → Q .non H) ∧
    (∀ s', stepM c r ⟨stk, md, got, bg⟩ = .go s' → ∀ q, H q = none → Q (.ref q) (upd H q (.tup [.str (mdS s'.md), .str (S s'.got)])))
theorem scIt : FnScope ["mode", "sign", "got"] ["mode", "sign", "got"] (defScope sInText) := ⟨rfl, rfl, rfl, by decide +kernel, rfl, by decide +kernel, by decide +kernel⟩
theorem ok_inText {fd : FuncData} (F : FnG K "_law_in_text" sInText fd) : FnOk PG w K mg base CX0 1 (He.ga K "_law_in_text") fd ["mode", "sign", "got"] spInText := by
  refine F.ok scIt (fun vs H Q E h => ?_) (fun cdv A outer s H vs Q E hr h => ⟨_, PSs.nox (
    pss_cons (ps_if (pt_cmpR op_eq (pv 0) pe_str (nomark _))
      (pss_cons (ps_if (pt_cmpR op_notIn_sign (pv 1) pe_str rfl) (pss_one (ps_ret pe_non)) pss_nil) <|
       pss_one (ps_ret (pe_tup (pa_cons pe_str (pa_cons (pe_op op_add_str (pv 2) (pe_ifExp (pt_cmpR op_eq (pv 1) pe_str (nomark _)) pe_str (pv 1))) pa_nil))))) pss_nil) <|
    pss_cons (ps_if (pt_cmpR op_eq (pv 1) pe_str (nomark _)) (pss_one (ps_ret (pe_tup (pa_cons pe_str (pa_cons (pv 2) pa_nil))))) pss_nil) <|
    pss_cons (ps_if (pt_cmpR op_eq (pv 1) pe_str (nomark _)) (pss_one (ps_ret pe_non)) pss_nil) <|
    pss_one (ps_ret (pe_tup (pa_cons pe_str (pa_cons (pe_op op_add_str (pv 2) (pv 1)) pa_nil))))), ?_⟩)
  · obtain ⟨md, c, got, rfl, _⟩ := h
    rfl
  · obtain ⟨md, c, got, rfl, hmd, h34, hl, k⟩ := h
    have sz : (1000000 : Nat) < sizeLine := by rw [sizeLine_eq]; decide
    obtain ⟨stk, bg, r, k1, k2⟩ := k
    have l1 : ∀ x : Nat, (S got).length + (S [x]).length ≤ sizeLine := fun x => by rw [SX.S_len, SX.S_len, List.length_singleton]; omega
    refine ⟨_, rfl, rfl, _, rfl, ?_⟩
    rw [show ("escape" : Str) = mdS .esc from rfl, mdS_eq, lit_n, lit_nl, lit_bs]
    rcases hmd with rfl | rfl
    · refine iteC (fun q => nomatch q) (fun _ => ?_)
      have h34 := h34 rfl
      refine ⟨_, rfl, rfl, _, rfl, ?_⟩
      refine iteC (fun q => ?_) (fun q => ?_)
      · have e : stepM c r ⟨stk, .txt, got, bg⟩ = .go ⟨stk, .esc, got, bg⟩ := by
          show (if c = 34 then _ else if c = 92 then _ else _) = _
          rw [if_neg h34, if_pos (eqS.mp q)]
        exact ⟨_, rfl, by show 2 ≤ sizeLine; omega, fun p np => k2 _ e p np⟩
      · refine ⟨_, rfl, rfl, _, rfl, ?_⟩
        refine iteC (fun q2 => ?_) (fun q2 => ?_)
        · have e : stepM c r ⟨stk, .txt, got, bg⟩ = .stop (c :: r) := by
            show (if c = 34 then _ else if c = 92 then _ else if c = 10 then _ else _) = _
            rw [if_neg h34, if_neg (fun z => q (eqS.mpr z)), if_pos (eqS.mp q2)]
          exact k1 _ e
        · have e : stepM c r ⟨stk, .txt, got, bg⟩ = .go ⟨stk, .txt, got ++ [c], bg⟩ := by
            show (if c = 34 then _ else if c = 92 then _ else if c = 10 then _ else _) = _
            rw [if_neg h34, if_neg (fun z => q (eqS.mpr z)), if_neg (fun z => q2 (eqS.mpr z))]
          refine ⟨_, rfl, _, rfl, _, _, rfl, rfl, l1 c, by show 2 ≤ sizeLine; omega, fun p np => ?_⟩
          rw [S_app]
          exact k2 _ e p np
    · refine iteC (fun _ => ?_) (fun q => absurd rfl q)
      refine ⟨_, rfl, c, _, rfl, rfl, _, rfl, ?_⟩
      rw [lit_bqn]
      have hin : (c ∈ [92, 34, 110]) ↔ (c = 92 ∨ c = 34 ∨ c = 110) := by simp
      refine iteNC (fun q => ?_) (fun q => ?_)
      · have e : stepM c r ⟨stk, .esc, got, bg⟩ = .stop (c :: r) := by
          show (if c = 92 ∨ c = 34 ∨ c = 110 then _ else _) = _
          rw [if_neg (fun z => q (hin.mpr z))]
        exact k1 _ e
      · have e : stepM c r ⟨stk, .esc, got, bg⟩ = .go ⟨stk, .txt, got ++ [if c = 110 then 10 else c], bg⟩ := by
          show (if c = 92 ∨ c = 34 ∨ c = 110 then _ else _) = _
          rw [if_pos (hin.mp q)]
        refine ⟨_, rfl, _, rfl, rfl, _, rfl, ?_⟩
        refine iteC (fun q2 => ?_) (fun q2 => ?_)
        · refine ⟨_, _, rfl, rfl, l1 10, by show 2 ≤ sizeLine; omega, fun p np => ?_⟩
          rw [if_pos (eqS.mp q2)] at e
          rw [S_app]
          exact k2 _ e p np
        · refine ⟨_, rfl, _, _, rfl, rfl, l1 c, by show 2 ≤ sizeLine; omega, fun p np => ?_⟩
          rw [if_neg (fun z => q2 (eqS.mpr z))] at e
          rw [S_app]
          exact k2 _ e p np
/-! ### in_number -/
def spInNum : Sp := fun vs H Q _ => ∃ (c : Nat) (got : List Nat) (b : Int), vs = [.str (S [c]), .str (S got), .int b] ∧ got ≠ [] ∧ got.length ≤ 100000 ∧
  (if got = [48] ∨ (got = [45] ∧ ¬ (49 ≤ c ∧ c ≤ 57)) then Q (.int (-1)) H else if got.length - (if got.head? = some 45 then 1 else 0) = 1500 then Q (.int b) H else Q (.bl true) H)
theorem scIn : FnScope ["sign", "got", "began"] ["sign", "got", "began"] (defScope sInNum) := ⟨rfl, rfl, rfl, by decide +kernel, rfl, by decide +kernel, by decide +kernel⟩
theorem ok_inNum {fd : FuncData} (F : FnG K "_law_in_number" sInNum fd) (T : Txt PG w K mg) : FnOk PG w K mg base CX0 1 (He.ga K "_law_in_number") fd ["sign", "got", "began"] spInNum := by
  refine F.ok scIn (fun vs H Q E h => ?_) (fun cdv A outer s H vs Q E hr h => ⟨_, PSs.nox (
    C8.pss_cut (ps_if (PW.pt (pw_or (pt_cmpR op_eq (pv 1) pe_str (nomark _)) (pw_or1 (PW.pt (pw_and (pt_cmpR op_eq (pv 1) pe_str (nomark _)) (pw_and1 (pt_cmpR op_notIn_sign (pv 0) pe_str rfl))))))) (pss_one (ps_ret (pe_un un_neg pe_int))) pss_nil) <|
    pss_cons (ps_if (pt_cmpR op_eq (pe_op op_sub (pe_callB call_len_str (by rfl) T.n_len boot_len (pa_cons (pv 1) pa_nil)) (pe_ifExp (pt_cmpR op_eq (pe_ix ix_str (pv 1) pe_int (fun _ _ => rfl)) pe_str (nomark _)) pe_int pe_int)) pe_int (nomark _)) (pss_one (ps_ret (pv 2))) pss_nil) <|
    pss_one (ps_ret pe_bl)), ?_⟩)
  · obtain ⟨c, got, b, rfl, _⟩ := h
    rfl
  · obtain ⟨c, got, b, rfl, hne, hl, k⟩ := h
    have sz : (1000000 : Nat) < sizeLine := by rw [sizeLine_eq]; decide
    refine ⟨fun σ H' => σ = [some (.str (S [c])), some (.str (S got)), some (.int b)] ∧ H' = H ∧ ¬ (got = [48] ∨ (got = [45] ∧ ¬ (49 ≤ c ∧ c ≤ 57))), ?_, ?_⟩
    · refine ⟨_, rfl, rfl, _, rfl, ?_⟩
      rw [lit_0, lit_m]
      have h19 : (c ∈ [49, 50, 51, 52, 53, 54, 55, 56, 57]) ↔ (49 ≤ c ∧ c ≤ 57) := by
        simp only [List.mem_cons, List.not_mem_nil, or_false]
        omega
      refine iteC (fun q => ?_) (fun q => ⟨_, rfl, rfl, _, rfl, ?_⟩)
      · rw [if_pos (.inl (eqL.mp q))] at k
        exact iteT ⟨_, rfl, k⟩
      · have q' : got ≠ [48] := fun z => q (eqL.mpr z)
        refine iteC (fun q2 => ⟨_, rfl, c, _, rfl, rfl, _, rfl, ?_⟩) (fun q2 => iteF ⟨rfl, rfl, ?_⟩)
        · rw [lit_19]
          refine iteNC (fun q3 => ?_) (fun q3 => ⟨rfl, rfl, ?_⟩)
          · rw [if_pos (.inr ⟨eqL.mp q2, fun z => q3 (h19.mpr z)⟩)] at k
            exact ⟨_, rfl, k⟩
          · rintro (z | z)
            · exact q' z
            · exact z.2 (h19.mp q3)
        · rintro (z | z)
          · exact q' z
          · exact q2 (eqL.mpr z.1)
    · rintro _ H ⟨rfl, rfl, hno⟩
      rw [if_neg hno] at k
      cases got with
      | nil => exact absurd rfl hne
      | cons g gs =>
        have hlt : (S (g :: gs)).length ≤ sizeLine := by rw [SX.S_len]; omega
        have hlen : (((S (g :: gs)).length : Nat) : Int) = ((gs.length + 1 : Nat) : Int) := by rw [SX.S_len] <;> rfl
        refine ⟨_, rfl, S (g :: gs), rfl, hlt, _, rfl, S (g :: gs), 0, g, rfl, rfl, hlt, atI_nat (j := 0) rfl, rfl, _, rfl, ?_⟩
        rw [lit_m, hlen]
        have h45 : (g :: gs).head? = some 45 ↔ g = 45 := ⟨fun z => Option.some.inj z, fun z => by rw [z] <;> rfl⟩
        have e0 : (g :: gs).length = gs.length + 1 := rfl
        refine iteC (fun q => ⟨_, _, rfl, rfl, rfl, _, rfl, ?_⟩) (fun q => ⟨_, _, rfl, rfl, rfl, _, rfl, ?_⟩)
        · rw [if_pos (h45.mpr (eqS.mp q)), e0] at k
          refine iteC (fun q2 => ?_) (fun q2 => ?_)
          · rw [if_pos (by have := V.int.inj q2; omega)] at k
            exact ⟨_, rfl, k⟩
          · rw [if_neg (fun z => q2 (congrArg V.int (by omega)))] at k
            exact k
        · rw [if_neg (fun z => q (eqS.mpr (h45.mp z))), e0] at k
          refine iteC (fun q2 => ?_) (fun q2 => ?_)
          · rw [if_pos (by have := V.int.inj q2; omega)] at k
            exact ⟨_, rfl, k⟩
          · rw [if_neg (fun z => q2 (congrArg V.int (by omega)))] at k
            exact k
end
end K80

set_option Elab.async false
set_option linter.all false
set_option maxRecDepth 100000
set_option maxHeartbeats 4000000
/-! Y4 (k80): the stack in the heap; begun_value, behind_value. -/
namespace K80
open PySem PySem.Spec PyProof.Rows L2 DD
/-- the lists on the stack, the top first -/
def StA (H0 H : Hp) : List (List D) → List Addr → Prop
  | [], bs => bs = []
  | acc :: st, bs => ∃ b r xs, bs = b :: r ∧ H b = some (.lst xs) ∧ DAts H acc xs ∧ b ∉ r ∧ H0 b = none ∧ StA H0 H st r
def StkAt (H0 H : Hp) (s : Addr) (stk : List (List D)) : Prop := ∃ bs : List Addr, H s = some (.lst (bs.reverse.map V.ref)) ∧ s ∉ bs ∧ H0 s = none ∧ StA H0 H stk bs
theorem StA.len {H0 H : Hp} : ∀ {stk : List (List D)} {bs : List Addr}, StA H0 H stk bs → bs.length = stk.length
  | [], bs, h => by rw [show bs = [] from h] <;> rfl
  | acc :: st, bs, h => by
    obtain ⟨b, r, xs, e, _, _, _, _, h2⟩ := h
    rw [e, List.length_cons, List.length_cons, StA.len h2]
theorem StA.keep {H0 H H' : Hp} (m : ∀ a zs, H a = some (.tup zs) → H' a = some (.tup zs)) : ∀ {stk : List (List D)} {bs : List Addr}, (∀ b ∈ bs, H' b = H b) → StA H0 H stk bs → StA H0 H' stk bs
  | [], bs, _, h => h
  | acc :: st, bs, k, h => by
    obtain ⟨b, r, xs, e, h1, h2, h3, h4, h5⟩ := h
    subst e
    exact ⟨b, r, xs, rfl, (k b List.mem_cons_self).trans h1, DAts.mono m h2, h3, h4, StA.keep m (fun c hc => k c (List.mem_cons_of_mem _ hc)) h5⟩
theorem StA.some {H0 H : Hp} : ∀ {stk : List (List D)} {bs : List Addr}, StA H0 H stk bs → ∀ b ∈ bs, ∃ xs, H b = some (.lst xs)
  | [], bs, h, b, hb => by
    rw [show bs = [] from h] at hb
    cases hb
  | acc :: st, bs, h, b, hb => by
    obtain ⟨c, r, xs, e, h1, _, _, _, h5⟩ := h
    subst e
    rcases List.mem_cons.mp hb with rfl | hb
    · exact ⟨xs, h1⟩
    · exact StA.some h5 b hb
theorem StkAt.ext {H0 H H' : Hp} {s : Addr} {stk : List (List D)} (h : StkAt H0 H s stk) (k : Same H H') : StkAt H0 H' s stk := by
  obtain ⟨bs, h1, h2, h3, h4⟩ := h
  refine ⟨bs, k _ _ h1, h2, h3, h4.keep (fun a zs e => k _ _ e) fun b hb => ?_⟩
  obtain ⟨xs, e⟩ := h4.some b hb
  rw [e]
  exact k _ _ e
theorem StkAt.len {H0 H : Hp} {s : Addr} {stk : List (List D)} (h : StkAt H0 H s stk) : ∃ vs, H s = some (.lst vs) ∧ vs.length = stk.length := by
  obtain ⟨bs, h1, h2, h3, h4⟩ := h
  exact ⟨_, h1, by rw [List.length_map, List.length_reverse, h4.len]⟩
/-- an empty list on top -/
theorem StkAt.push {H0 H : Hp} {s b : Addr} {stk : List (List D)} (h : StkAt H0 H s stk) (k : Same H0 H) (nb : H b = none) : ∃ vs, H s = some (.lst vs) ∧ vs.length = stk.length ∧ s ≠ b ∧
    StkAt H0 (upd (upd H b (.lst [])) s (.lst (vs ++ [.ref b]))) s ([] :: stk) ∧ Same H0 (upd (upd H b (.lst [])) s (.lst (vs ++ [.ref b]))) := by
  obtain ⟨bs, h1, h2, h3, h4⟩ := h
  have nsb : s ≠ b := ne_of_none h1 nb
  have nb0 : H0 b = none := by
    cases z : H0 b with
    | none => rfl
    | some o => rw [k _ _ z] at nb; cases nb
  have nbs : b ∉ bs := fun hb => by
    obtain ⟨xs, e⟩ := h4.some b hb
    rw [e] at nb
    cases nb
  refine ⟨_, h1, by rw [List.length_map, List.length_reverse, h4.len], nsb, ⟨b :: bs, ?_, ?_, h3, b, bs, [], rfl, ?_, DAts.nil, nbs, nb0, ?_⟩, ?_⟩
  · rw [upd_same, List.reverse_cons, List.map_append] <;> rfl
  · intro z
    rcases List.mem_cons.mp z with z | z
    · exact nsb z
    · exact h2 z
  · rw [upd_ne (Ne.symm nsb), upd_same]
  · refine h4.keep (fun a zs e => ?_) fun c hc => ?_
    · rw [upd_ne (by rintro rfl; rw [h1] at e; cases e), upd_ne (ne_of_none e nb)]
      exact e
    · rw [upd_ne (by rintro rfl; exact h2 hc), upd_ne (by rintro rfl; exact nbs hc)]
  · intro c o e
    rw [upd_ne (ne_of_none e h3), upd_ne (ne_of_none e nb0)]
    exact k _ _ e
/-- the list on top, and one more thing in it -/
theorem StkAt.top {H0 H : Hp} {s : Addr} {acc : List D} {stk : List (List D)} (h : StkAt H0 H s (acc :: stk)) (k : Same H0 H) : ∃ (us : List V) (b : Addr) (xs : List V), H s = some (.lst (us ++ [.ref b])) ∧ H b = some (.lst xs) ∧ xs.length = acc.length ∧ DAts H acc xs ∧
    ∀ d v, DAt H d v → StkAt H0 (upd H b (.lst (xs ++ [v]))) s ((acc ++ [d]) :: stk) ∧ Same H0 (upd H b (.lst (xs ++ [v]))) := by
  obtain ⟨bs, h1, h2, h3, b, r, xs, rfl, g1, g2, g3, g4, g5⟩ := h
  have nsb : s ≠ b := fun z => h2 (by rw [z]; exact List.mem_cons_self)
  refine ⟨r.reverse.map V.ref, b, xs, by rw [h1, List.reverse_cons, List.map_append] <;> rfl, g1, g2.length, g2, fun d v hd => ?_⟩
  have m : ∀ a zs, H a = some (.tup zs) → (upd H b (.lst (xs ++ [v]))) a = some (.tup zs) := fun a zs e => by
    rw [upd_ne (by rintro rfl; rw [g1] at e; cases e)]
    exact e
  refine ⟨⟨b :: r, ?_, h2, h3, b, r, xs ++ [v], rfl, upd_same, DAts.snoc (DAts.mono m g2) (DAt.mono m hd), g3, g4, g5.keep m fun c hc => ?_⟩, fun c o e => ?_⟩
  · rw [upd_ne nsb]
    exact h1
  · rw [upd_ne (by rintro rfl; exact g3 hc)]
  · rw [upd_ne (ne_of_none e g4)]
    exact k _ _ e
/-- the top list taken away -/
theorem StkAt.pop {H0 H : Hp} {s : Addr} {acc : List D} {stk : List (List D)} (h : StkAt H0 H s (acc :: stk)) (k : Same H0 H) : ∃ (us : List V) (b : Addr) (xs : List V), H s = some (.lst (us ++ [.ref b])) ∧
    StkAt H0 (upd H s (.lst us)) s stk ∧ Same H0 (upd H s (.lst us)) ∧ (upd H s (.lst us)) b = some (.lst xs) ∧ DAts (upd H s (.lst us)) acc xs := by
  obtain ⟨bs, h1, h2, h3, b, r, xs, rfl, g1, g2, g3, g4, g5⟩ := h
  have nsb : s ≠ b := fun z => h2 (by rw [z]; exact List.mem_cons_self)
  have m : ∀ a zs, H a = some (.tup zs) → (upd H s (.lst (r.reverse.map V.ref))) a = some (.tup zs) := fun a zs e => by
    rw [upd_ne (by rintro rfl; rw [h1] at e; cases e)]
    exact e
  refine ⟨r.reverse.map V.ref, b, xs, by rw [h1, List.reverse_cons, List.map_append] <;> rfl, ⟨r, upd_same, fun z => h2 (List.mem_cons_of_mem _ z), h3, g5.keep m fun c hc => ?_⟩, fun c o e => ?_, ?_, DAts.mono m g2⟩
  · rw [upd_ne (by rintro rfl; exact h2 (List.mem_cons_of_mem _ hc))]
  · rw [upd_ne (ne_of_none e h3)]
    exact k _ _ e
  · rw [upd_ne (Ne.symm nsb)]
    exact g1
section
variable {w : World} {K : PySem.W.Frag} {mg : Str → Option Value} {base : Heap}
def spBegun : Sp := fun vs H Q _ => ∃ (s : Addr) (c : Nat) (first : Bool) (stk : List (List D)) (H0 : Hp), vs = [.ref s, .str (S [c]), .str (mdS (if first = true then .fst else .val))] ∧ StkAt H0 H s stk ∧ Same H0 H ∧ 1 ≤ stk.length ∧ stk.length ≤ 25 ∧ (first = true → 2 ≤ stk.length) ∧ (∀ acc ∈ stk, acc.length ≤ 100000) ∧
  ∃ r, (∀ x, begunM c r ⟨stk, (if first = true then .fst else .val), [], []⟩ first = .stop x → Q .non H) ∧
    (∀ s', begunM c r ⟨stk, (if first = true then .fst else .val), [], []⟩ first = .go s' → ∀ q H', Same H0 H' → StkAt H0 H' s s'.stk → H' q = some (.tup [.str (mdS s'.md), .str (S s'.got)]) → Q (.ref q) H')
theorem scBg : FnScope ["stack", "sign", "mode", "whole"] ["stack", "sign", "mode"] (defScope sBegun) := ⟨rfl, rfl, rfl, by decide +kernel, rfl, by decide +kernel, by decide +kernel⟩
def kvW : List (Key × V) := [(Sum.inr ("n" : Str), .str "one"), (Sum.inr ("t" : Str), .str "rue"), (Sum.inr ("f" : Str), .str "alse")]
theorem kvW_at {c : Nat} (h : c = 110 ∨ c = 116 ∨ c = 102) : valV (mergeK [] kvW) (Sum.inr (S [c])) = some (.str (S (wordTail c))) := by
  rcases h with rfl | rfl | rfl <;> decide +kernel
theorem ok_begun {fd : FuncData} (F : FnG K "_law_begun_value" sBegun fd) (T : Txt PG w K mg) : FnOk PG w K mg base CX0 1 (He.ga K "_law_begun_value") fd ["stack", "sign", "mode"] spBegun := by
  have nd_ := scBg.nd
  refine F.ok scBg (fun vs H Q E h => ?_) (fun cdv A outer s H vs Q E hr h => ⟨_, PSs.nox (
    pss_cons (ps_if (pt_cmpR op_eq (pv 1) pe_str (nomark _))
      (pss_cons (ps_if (pt_cmpR op_eq (pe_callB call_len_seq (by rfl) T.n_len boot_len (pa_cons (pv 0) pa_nil)) pe_int (nomark _)) (pss_one (ps_ret pe_non)) pss_nil) <|
       pss_cons (ps_expr (pe_bm PySem.F.plainAttrs_list PySem.F.slot_list_append PySem.F.type_list_append mt_append (pv 0) (pa_cons (pe_lst pa_nil) pa_nil))) <|
       pss_one (ps_ret (pe_tup (pa_cons pe_str (pa_cons pe_str pa_nil))))) pss_nil) <|
    C8.pss_cut (ps_if (PW.pt (pw_and (pt_cmpR op_eq (pv 1) pe_str (nomark _)) (pw_and1 (pt_cmpR op_eq (pv 2) pe_str (nomark _)))))
      (pss_cons (ps_set (i := 3) nd_ rfl (Or.inl rfl) (pe_callTy call_tuple_of rfl T.n_tuple (by decide +kernel) (pa_cons (pe_bm0 PySem.F.plainAttrs_list PySem.F.slot_list_pop PySem.F.type_list_pop mt_pop (pv 0)) pa_nil))) <|
       pss_cons (ps_expr (pe_bm PySem.F.plainAttrs_list PySem.F.slot_list_append PySem.F.type_list_append mt_append (pe_ix ix_list (pv 0) (pe_un un_neg pe_int) (fun _ _ => rfl)) (pa_cons (pv 3) pa_nil))) <|
       pss_one (ps_ret (pe_tup (pa_cons pe_str (pa_cons pe_str pa_nil))))) pss_nil) <|
    pss_cons (ps_if (pt_cmpR op_eq (pv 1) pe_str (nomark _)) (pss_one (ps_ret (pe_tup (pa_cons pe_str (pa_cons pe_str pa_nil))))) pss_nil) <|
    pss_cons (ps_if (pt_cmpR op_in_sign (pv 1) pe_str rfl) (pss_one (ps_ret (pe_tup (pa_cons pe_str (pa_cons (pe_dget (hu_of hr) (pe_disp (pps_cons pe_str pe_str (pps_cons pe_str pe_str (pps_cons pe_str pe_str pps_nil))) (by rfl) (by rfl) (fun z => by cases z) (by decide)) (pv 1) (fun _ _ => rfl)) pa_nil))))) pss_nil) <|
    pss_cons (ps_if (pt_cmpR op_in_sign (pv 1) pe_str rfl) (pss_one (ps_ret (pe_tup (pa_cons pe_str (pa_cons (pv 1) pa_nil))))) pss_nil) <|
    pss_one (ps_ret pe_non)), ?_⟩)
  · obtain ⟨s, c, first, stk, H0, rfl, _⟩ := h
    rfl
  · obtain ⟨p, c, first, stk, H0, rfl, hs, sm, hl1, hl25, hf, hbd, k⟩ := h
    have sz : (1000000 : Nat) < sizeLine := by rw [sizeLine_eq]; decide
    obtain ⟨r, k1, k2⟩ := k
    have two : (2 : Nat) ≤ sizeLine := by omega
    have ret : ∀ (md : Md) (got : List Nat) (H' : Hp) (s' : Ms), begunM c r ⟨stk, (if first = true then .fst else .val), [], []⟩ first = .go s' → s'.md = md → s'.got = got → Same H0 H' → StkAt H0 H' p s'.stk → ∀ q, H' q = none → Q (.ref q) (upd H' q (.tup [.str (mdS md), .str (S got)])) := fun md got H' s' e e1 e2 sm' hs' q nq => by
      subst e1 e2
      exact k2 s' e q _ (SameT sm' (SameN nq)) (hs'.ext (SameN nq)) upd_same
    have emp : ("" : Str) = S [] := lit_e
    refine ⟨_, rfl, rfl, _, rfl, ?_⟩
    rw [show ("first" : Str) = mdS .fst from rfl, show ("behind" : Str) = mdS .beh from rfl, show ("text" : Str) = mdS .txt from rfl, show ("word" : Str) = mdS .word from rfl, show ("number" : Str) = mdS .num from rfl, emp, lit_op, lit_cl, lit_q]
    refine iteC (fun q => ?_) (fun q => ?_)
    · have hc : c = 40 := eqS.mp q
      obtain ⟨vs, hv, hvl⟩ := hs.len
      refine ⟨_, rfl, p, vs, rfl, .inl (SqL.of hv), rfl, _, rfl, ?_⟩
      refine iteC (fun q2 => ?_) (fun q2 => ?_)
      · have h25 : stk.length = 25 := by have := V.int.inj q2; omega
        have e : begunM c r ⟨stk, (if first = true then .fst else .val), [], []⟩ first = .stop (c :: r) := by
          unfold begunM
          rw [if_pos hc]
          exact if_pos h25
        exact k1 _ e
      · have h25 : ¬ stk.length = 25 := fun z => q2 (congrArg V.int (by omega))
        have e : begunM c r ⟨stk, (if first = true then .fst else .val), [], []⟩ first = .go ⟨[] :: stk, .fst, [], []⟩ := by
          unfold begunM
          rw [if_pos hc]
          exact if_neg h25
        refine ⟨_, rfl, .inl ⟨rfl, _, SqL.of hv⟩, Nat.zero_le _, fun b nb => ?_⟩
        obtain ⟨us, hu, hul, nsb, hs2, sm2⟩ := hs.push sm nb
        have : vs = us := by rw [hv] at hu; injection hu with hu; injection hu
        subst this
        refine ⟨p, vs, .ref b, rfl, rfl, by rw [upd_ne nsb]; exact hv, by omega, ?_⟩
        exact ⟨two, fun q nq => ret .fst [] _ _ e rfl rfl sm2 hs2 q nq⟩
    · have hc40 : c ≠ 40 := fun z => q (eqS.mpr z)
      have close : c = 41 → first = true → begunM c r ⟨stk, (if first = true then .fst else .val), [], []⟩ first = .go ⟨popD stk, .beh, [], []⟩ := fun hc hf1 => by
        unfold begunM
        rw [if_neg hc40, if_pos ⟨hc, hf1⟩]
      have noclose : ¬ (c = 41 ∧ first = true) → begunM c r ⟨stk, (if first = true then .fst else .val), [], []⟩ first = (if c = 34 then .go ⟨stk, .txt, [], c :: r⟩
          else if c = 110 ∨ c = 116 ∨ c = 102 then .go ⟨stk, .word, wordTail c, c :: r⟩
          else if c = 45 ∨ isDig c = true then .go ⟨stk, .num, [c], c :: r⟩
          else .stop (c :: r)) := fun hn => by
        unfold begunM
        rw [if_neg hc40, if_neg hn]
      refine ⟨fun σ H' => σ = [some (.ref p), some (.str (S [c])), some (.str (mdS (if first = true then .fst else .val))), none] ∧ H' = H ∧ ¬ (c = 41 ∧ first = true), ?_, ?_⟩
      · refine ⟨_, rfl, rfl, _, rfl, ?_⟩
        refine iteC (fun q1 => ⟨_, rfl, rfl, _, rfl, ?_⟩) (fun q1 => iteF ⟨rfl, rfl, fun z => q1 (eqS.mpr z.1)⟩)
        rw [mdS_eq]
        cases first with
        | false => exact iteC (fun z => nomatch z) (fun _ => ⟨rfl, rfl, fun z => by cases z.2⟩)
        | true =>
          refine iteC (fun _ => ?_) (fun z => absurd rfl z)
          have e := close (eqS.mp q1) rfl
          have hf2 := hf rfl
          cases stk with
          | nil => exact absurd hl1 (by decide)
          | cons a st =>
            cases st with
            | nil => exact absurd hf2 (by show ¬ 2 ≤ 1; decide)
            | cons acc st =>
              obtain ⟨us, b, xs, hv, hs1, sm1, hb1, hd1⟩ := hs.pop sm
              have hlast : (us ++ [V.ref b])[(us ++ [V.ref b]).length - 1]? = some (.ref b) := by
                rw [List.length_append, List.length_singleton, Nat.add_sub_cancel, List.getElem?_append_right (Nat.le_refl _), Nat.sub_self] <;> rfl
              refine ⟨_, rfl, .inl ⟨rfl, _, SqL.of hv⟩, p, _, .ref b, rfl, rfl, hv, hlast, ?_⟩
              rw [List.dropLast_concat]
              refine ⟨b, xs, rfl, .inl ⟨SqL.of hb1, fun t nt => ?_⟩⟩
              have hdt : DAt (upd (upd H p (.lst us)) t (.tup xs)) (.tup a) (.ref t) := DAt.tup nt hd1
              have hs2 := hs1.ext (SameN (o := .tup xs) nt)
              have sm2 := SameT sm1 (SameN (o := .tup xs) nt)
              obtain ⟨us2, b2, ys, hv2, hb2, hyl, _, hput⟩ := hs2.top sm2
              obtain ⟨hs3, sm3⟩ := hput (.tup a) (.ref t) hdt
              have hyb := hbd acc (List.mem_cons_of_mem _ List.mem_cons_self)
              refine ⟨_, rfl, _, rfl, p, _, -1, .ref b2, rfl, rfl, SqL.of hv2, atI_last _ _, .inl ⟨rfl, _, SqL.of hb2⟩, _, rfl, b2, ys, .ref t, rfl, rfl, hb2, by omega, ?_⟩
              exact ⟨two, fun q nq => ret .beh [] _ _ e rfl rfl sm3 hs3 q nq⟩
      · rintro _ H ⟨rfl, rfl, hn⟩
        have e := noclose hn
        refine ⟨_, rfl, rfl, _, rfl, ?_⟩
        refine iteC (fun q1 => ?_) (fun q1 => ?_)
        · rw [if_pos (eqS.mp q1)] at e
          exact ⟨two, fun q nq => ret .txt [] _ _ e rfl rfl sm hs q nq⟩
        · rw [if_neg (fun z => q1 (eqS.mpr z))] at e
          refine ⟨_, rfl, c, _, rfl, rfl, _, rfl, ?_⟩
          rw [lit_ntf]
          have h3 : (c ∈ [110, 116, 102]) ↔ (c = 110 ∨ c = 116 ∨ c = 102) := by simp
          refine iteC (fun q2 => ?_) (fun q2 => ?_)
          · rw [if_pos (h3.mp q2)] at e
            refine fun d nd => ⟨upd_same, kvW, rfl, by decide, ?_⟩
            have sd : Same H (upd (upd H d (.dK [])) d (.dK (mergeK [] kvW))) := fun b o z => by
              rw [upd_ne (ne_of_none z nd), upd_ne (ne_of_none z nd)]
              exact z
            have hg : DGet (upd (upd H d (.dK [])) d (.dK (mergeK [] kvW))) d (.str (S [c])) (some (.str (S (wordTail c)))) := by
              have := DGet.k (H := upd (upd H d (.dK [])) d (.dK (mergeK [] kvW))) (k := Sum.inr (S [c])) upd_same
              rw [kvW_at (h3.mp q2)] at this
              exact this
            exact ⟨_, rfl, d, _, rfl, hg, two, fun q nq => ret .word (wordTail c) _ _ e rfl rfl (SameT sm sd) (hs.ext sd) q nq⟩
          · rw [if_neg (fun z => q2 (h3.mpr z))] at e
            refine ⟨_, rfl, c, _, rfl, rfl, _, rfl, ?_⟩
            rw [lit_co]
            have h4 : (c ∈ [45, 48, 49, 50, 51, 52, 53, 54, 55, 56, 57]) ↔ (c = 45 ∨ isDig c = true) := by
              unfold isDig
              rw [Bool.and_eq_true, decide_eq_true_iff, decide_eq_true_iff]
              simp only [List.mem_cons, List.not_mem_nil, or_false]
              omega
            refine iteC (fun q3 => ?_) (fun q3 => ?_)
            · rw [if_pos (h4.mp q3)] at e
              exact ⟨_, rfl, two, fun q nq => ret .num [c] _ _ e rfl rfl sm hs q nq⟩
            · rw [if_neg (fun z => q3 (h4.mpr z))] at e
              exact k1 _ e
end
end K80

set_option Elab.async false
set_option linter.all false
set_option maxRecDepth 100000
set_option maxHeartbeats 4000000
/-! Y5 (k80): behind_value. -/
namespace K80
open PySem PySem.Spec PyProof.Rows L2 DD
section
variable {w : World} {K : PySem.W.Frag} {mg : Str → Option Value} {base : Heap}
def spBehind : Sp := fun vs H Q _ => ∃ (s : Addr) (c : Nat) (stk : List (List D)) (H0 : Hp), vs = [.ref s, .str (S [c])] ∧ StkAt H0 H s stk ∧ Same H0 H ∧ 1 ≤ stk.length ∧ stk.length ≤ 25 ∧ (∀ acc ∈ stk, acc.length ≤ 100000) ∧
  ∃ r, (∀ x, stepM c r ⟨stk, .beh, [], []⟩ = .stop x → Q .non H) ∧ (∀ s', stepM c r ⟨stk, .beh, [], []⟩ = .go s' → ∀ H', Same H0 H' → StkAt H0 H' s s'.stk → Q (.str (mdS s'.md)) H')
theorem scBh : FnScope ["stack", "sign", "whole"] ["stack", "sign"] (defScope sBehind) := ⟨rfl, rfl, rfl, by decide +kernel, rfl, by decide +kernel, by decide +kernel⟩
theorem ok_behind {fd : FuncData} (F : FnG K "_law_behind_value" sBehind fd) (T : Txt PG w K mg) : FnOk PG w K mg base CX0 1 (He.ga K "_law_behind_value") fd ["stack", "sign"] spBehind := by
  have nd_ := scBh.nd
  refine F.ok scBh (fun vs H Q E h => ?_) (fun cdv A outer s H vs Q E hr h => ⟨_, PSs.nox (
    C8.pss_cut (ps_if (PW.pt (pw_or (pt_cmpR op_eq (pe_callB call_len_seq (by rfl) T.n_len boot_len (pa_cons (pv 0) pa_nil)) pe_int (nomark _)) (pw_or1 (pt_cmpR op_notIn_sign (pv 1) pe_str rfl)))) (pss_one (ps_ret pe_non)) pss_nil) <|
    pss_cons (ps_if (pt_cmpR op_eq (pv 1) pe_str (nomark _)) (pss_one (ps_ret pe_str)) pss_nil) <|
    pss_cons (ps_set (i := 2) nd_ rfl (Or.inl rfl) (pe_callTy call_tuple_of rfl T.n_tuple (by decide +kernel) (pa_cons (pe_bm0 PySem.F.plainAttrs_list PySem.F.slot_list_pop PySem.F.type_list_pop mt_pop (pv 0)) pa_nil))) <|
    pss_cons (ps_expr (pe_bm PySem.F.plainAttrs_list PySem.F.slot_list_append PySem.F.type_list_append mt_append (pe_ix ix_list (pv 0) (pe_un un_neg pe_int) (fun _ _ => rfl)) (pa_cons (pv 2) pa_nil))) <|
    pss_one (ps_ret pe_str)), ?_⟩)
  · obtain ⟨s, c, stk, H0, rfl, _⟩ := h
    rfl
  · obtain ⟨p, c, stk, H0, rfl, hs, sm, hl1, hl25, hbd, k⟩ := h
    have sz : (1000000 : Nat) < sizeLine := by rw [sizeLine_eq]; decide
    obtain ⟨r, k1, k2⟩ := k
    obtain ⟨vs, hv, hvl⟩ := hs.len
    refine ⟨fun σ H' => σ = [some (.ref p), some (.str (S [c])), none] ∧ H' = H ∧ ¬ (stk.length = 1 ∨ (c ≠ 32 ∧ c ≠ 41)), ?_, ?_⟩
    · have stop : (stk.length = 1 ∨ (c ≠ 32 ∧ c ≠ 41)) → Q .non H := fun z => k1 (c :: r) (if_pos z)
      refine ⟨_, rfl, p, vs, rfl, .inl (SqL.of hv), rfl, _, rfl, ?_⟩
      have h2 : (c ∈ [32, 41]) ↔ (c = 32 ∨ c = 41) := by simp
      refine iteC (fun q => iteT (stop (.inl (by have := V.int.inj q; omega)))) (fun q => ⟨_, rfl, c, _, rfl, rfl, _, rfl, ?_⟩)
      rw [lit_spcl]
      refine iteNC (fun q2 => stop (.inr ⟨fun z => q2 (h2.mpr (.inl z)), fun z => q2 (h2.mpr (.inr z))⟩)) (fun q2 => ⟨rfl, rfl, ?_⟩)
      rintro (z | z)
      · exact q (congrArg V.int (by omega))
      · rcases h2.mp q2 with y | y
        · exact z.1 y
        · exact z.2 y
    · rintro _ H ⟨rfl, rfl, hn⟩
      have e : stepM c r ⟨stk, .beh, [], []⟩ = (if c = 32 then .go ⟨stk, .val, [], []⟩ else .go ⟨popD stk, .beh, [], []⟩) := if_neg hn
      refine ⟨_, rfl, rfl, _, rfl, ?_⟩
      rw [lit_sp, show ("value" : Str) = mdS .val from rfl, show ("behind" : Str) = mdS .beh from rfl]
      refine iteC (fun q => ?_) (fun q => ?_)
      · rw [if_pos (eqS.mp q)] at e
        exact k2 _ e H sm hs
      · rw [if_neg (fun z => q (eqS.mpr z))] at e
        cases stk with
        | nil => exact absurd hl1 (by decide)
        | cons a st =>
          cases st with
          | nil => exact absurd (.inl rfl) hn
          | cons acc st =>
            obtain ⟨us, b, xs, hv', hs1, sm1, hb1, hd1⟩ := hs.pop sm
            have hlast : (us ++ [V.ref b])[(us ++ [V.ref b]).length - 1]? = some (.ref b) := by
              rw [List.length_append, List.length_singleton, Nat.add_sub_cancel, List.getElem?_append_right (Nat.le_refl _), Nat.sub_self] <;> rfl
            refine ⟨_, rfl, .inl ⟨rfl, _, SqL.of hv'⟩, p, _, .ref b, rfl, rfl, hv', hlast, ?_⟩
            rw [List.dropLast_concat]
            refine ⟨b, xs, rfl, .inl ⟨SqL.of hb1, fun t nt => ?_⟩⟩
            have hdt : DAt (upd (upd H p (.lst us)) t (.tup xs)) (.tup a) (.ref t) := DAt.tup nt hd1
            have hs2 := hs1.ext (SameN (o := .tup xs) nt)
            have sm2 := SameT sm1 (SameN (o := .tup xs) nt)
            obtain ⟨us2, b2, ys, hv2, hb2, hyl, _, hput⟩ := hs2.top sm2
            obtain ⟨hs3, sm3⟩ := hput (.tup a) (.ref t) hdt
            have hyb := hbd acc (List.mem_cons_of_mem _ List.mem_cons_self)
            refine ⟨_, rfl, _, rfl, p, _, -1, .ref b2, rfl, rfl, SqL.of hv2, atI_last _ _, .inl ⟨rfl, _, SqL.of hb2⟩, _, rfl, b2, ys, .ref t, rfl, rfl, hb2, by omega, ?_⟩
            exact k2 _ e _ sm3 hs3
end
end K80

set_option Elab.async false
set_option linter.all false
set_option maxRecDepth 100000
set_option maxHeartbeats 4000000
/-! Y6 (k80): the machine's states stay within bounds. -/
namespace DD
open PySem L2
def NumOk (got : List Nat) : Prop := got = [45] ∨ ∃ sg ds, got = sg ++ ds ∧ (sg = [] ∨ sg = [45]) ∧ ds ≠ [] ∧ ds.all isDig = true ∧ ds.length ≤ 1500
structure Vd (n : Nat) (m : Ms) : Prop where
  l1 : 1 ≤ m.stk.length
  l2 : m.stk.length ≤ 25
  fs : m.md = .fst → 2 ≤ m.stk.length
  nu : m.md = .num → NumOk m.got
  wo : m.md = .word → m.got ≠ [] ∧ ∃ c r, m.bg = c :: r ∧ (c = 110 ∨ c = 116 ∨ c = 102)
  bd : ∀ acc ∈ m.stk, acc.length ≤ n
  gl : m.got.length ≤ n + 4
theorem pushD_len (d : D) (stk : List (List D)) : (pushD d stk).length = stk.length := by
  cases stk <;> rfl
theorem pushD_bd {d : D} {stk : List (List D)} {n : Nat} (h : ∀ acc ∈ stk, acc.length ≤ n) : ∀ acc ∈ pushD d stk, acc.length ≤ n + 1 := by
  cases stk with
  | nil => intro acc ha; cases ha
  | cons a r =>
    intro acc ha
    rcases List.mem_cons.mp ha with rfl | ha
    · rw [List.length_append, List.length_singleton]
      have := h a List.mem_cons_self
      omega
    · have := h acc (List.mem_cons_of_mem _ ha)
      omega
theorem popD_len {stk : List (List D)} (h : 1 ≤ stk.length) : (popD stk).length = stk.length - 1 := by
  cases stk with
  | nil => exact absurd h (by decide)
  | cons a r =>
    show (pushD (.tup a) r).length = _
    rw [pushD_len] <;> rfl
theorem popD_bd {stk : List (List D)} {n : Nat} (h : ∀ acc ∈ stk, acc.length ≤ n) : ∀ acc ∈ popD stk, acc.length ≤ n + 1 := by
  cases stk with
  | nil => intro acc ha; cases ha
  | cons a r => exact pushD_bd fun acc ha => h acc (List.mem_cons_of_mem _ ha)
theorem Vd.pre {n : Nat} {m : Ms} {c : Nat} (h : Vd n m) : Vd (n + 1) (preM c m) := by
  obtain ⟨stk, md, got, bg⟩ := m
  obtain ⟨l1, l2, fs, nu, wo, bd, gl⟩ := h
  have up : Vd (n + 1) ⟨stk, md, got, bg⟩ := ⟨l1, l2, fs, nu, wo, fun acc ha => Nat.le_succ_of_le (bd acc ha), Nat.le_succ_of_le gl⟩
  cases md with
  | num =>
    unfold preM
    dsimp only
    by_cases hq : got ≠ [45] ∧ isDig c = false
    · rw [if_pos hq]
      exact ⟨by rw [pushD_len]; exact l1, by rw [pushD_len]; exact l2, fun z => (by cases z), fun z => (by cases z), fun z => (by cases z), pushD_bd bd, by show 0 ≤ _; omega⟩
    · rw [if_neg hq]
      exact up
  | _ => exact up
theorem begun_vd {n : Nat} {stk : List (List D)} {c : Nat} {r got bg : List Nat} {first : Bool} {md : Md} {s' : Ms} (l1 : 1 ≤ stk.length) (l2 : stk.length ≤ 25) (fs : first = true → 2 ≤ stk.length) (bd : ∀ acc ∈ stk, acc.length ≤ n)
    (e : begunM c r ⟨stk, md, got, bg⟩ first = .go s') : Vd (n + 1) s' := by
  have bd' : ∀ acc ∈ stk, acc.length ≤ n + 1 := fun acc ha => Nat.le_succ_of_le (bd acc ha)
  unfold begunM at e
  dsimp only at e
  split at e
  · split at e
    · cases e
    · injection e with e
      subst e
      refine ⟨by show 1 ≤ stk.length + 1; omega, by show stk.length + 1 ≤ 25; omega, fun _ => by show 2 ≤ stk.length + 1; omega, fun z => (by cases z), fun z => (by cases z), fun acc ha => ?_, by show 0 ≤ _; omega⟩
      rcases List.mem_cons.mp ha with rfl | ha
      · exact Nat.zero_le _
      · exact bd' acc ha
  · split at e
    · rename_i hc
      injection e with e
      subst e
      have hl : (popD stk).length = stk.length - 1 := popD_len l1
      have := fs hc.2
      exact ⟨by show 1 ≤ (popD stk).length; omega, by show (popD stk).length ≤ 25; omega, fun z => (by cases z), fun z => (by cases z), fun z => (by cases z), popD_bd bd, by show 0 ≤ _; omega⟩
    · split at e
      · injection e with e
        subst e
        exact ⟨l1, l2, fun z => (by cases z), fun z => (by cases z), fun z => (by cases z), bd', by show 0 ≤ _; omega⟩
      · split at e
        · rename_i hc
          injection e with e
          subst e
          have hne : wordTail c ≠ [] ∧ (wordTail c).length ≤ 4 := by
            unfold wordTail
            split
            · exact ⟨List.cons_ne_nil _ _, by decide⟩
            · split <;> exact ⟨List.cons_ne_nil _ _, by decide⟩
          exact ⟨l1, l2, fun z => (by cases z), fun z => (by cases z), fun _ => ⟨hne.1, c, r, rfl, hc⟩, bd', by show (wordTail c).length ≤ _; omega⟩
        · split at e
          · rename_i hc
            injection e with e
            subst e
            refine ⟨l1, l2, fun z => (by cases z), fun _ => ?_, fun z => (by cases z), bd', by show 1 ≤ _; omega⟩
            rcases hc with hc | hc
            · exact .inl (by rw [hc])
            · exact .inr ⟨[], [c], rfl, .inl rfl, List.cons_ne_nil _ _, by simp [hc], by show 1 ≤ 1500; decide⟩
          · cases e
theorem Vd.step {n : Nat} {m m' : Ms} {c : Nat} {r : List Nat} (h : Vd n m) (hp : m.md = .num → m.got = [45] ∨ isDig c = true) (e : stepM c r m = .go m') : Vd (n + 1) m' := by
  obtain ⟨stk, md, got, bg⟩ := m
  obtain ⟨l1, l2, fs, nu, wo, bd, gl⟩ := h
  have bd' : ∀ acc ∈ stk, acc.length ≤ n + 1 := fun acc ha => Nat.le_succ_of_le (bd acc ha)
  cases md with
  | val => exact begun_vd (md := .val) (got := got) (bg := bg) l1 l2 (fun z => (by cases z)) bd e
  | fst => exact begun_vd (md := .fst) (got := got) (bg := bg) l1 l2 (fun _ => fs rfl) bd e
  | txt =>
    unfold stepM at e
    dsimp only at e
    split at e
    · injection e with e
      subst e
      exact ⟨by show 1 ≤ (pushD _ stk).length; rw [pushD_len]; exact l1, by show (pushD _ stk).length ≤ 25; rw [pushD_len]; exact l2, fun z => (by cases z), fun z => (by cases z), fun z => (by cases z), pushD_bd bd, by show 0 ≤ _; omega⟩
    · split at e
      · injection e with e
        subst e
        exact ⟨l1, l2, fun z => (by cases z), fun z => (by cases z), fun z => (by cases z), bd', Nat.le_succ_of_le gl⟩
      · split at e
        · cases e
        · injection e with e
          subst e
          exact ⟨l1, l2, fun z => (by cases z), fun z => (by cases z), fun z => (by cases z), bd', by show (got ++ [c]).length ≤ _; rw [List.length_append, List.length_singleton]; have : got.length ≤ n + 4 := gl; omega⟩
  | esc =>
    unfold stepM at e
    dsimp only at e
    split at e
    · injection e with e
      subst e
      exact ⟨l1, l2, fun z => (by cases z), fun z => (by cases z), fun z => (by cases z), bd', by show (got ++ [_]).length ≤ _; rw [List.length_append, List.length_singleton]; have : got.length ≤ n + 4 := gl; omega⟩
    · cases e
  | word =>
    unfold stepM at e
    dsimp only at e
    split at e
    · cases e
    · split at e
      · injection e with e
        subst e
        exact ⟨by show 1 ≤ (pushD _ stk).length; rw [pushD_len]; exact l1, by show (pushD _ stk).length ≤ 25; rw [pushD_len]; exact l2, fun z => (by cases z), fun z => (by cases z), fun z => (by cases z), pushD_bd bd, by show 0 ≤ _; omega⟩
      · rename_i hne
        injection e with e
        subst e
        exact ⟨l1, l2, fun z => (by cases z), fun z => (by cases z), fun _ => ⟨hne, (wo rfl).2⟩, bd', by show got.tail.length ≤ _; rw [List.length_tail]; have : got.length ≤ n + 4 := gl; omega⟩
  | beh =>
    unfold stepM at e
    dsimp only at e
    split at e
    · cases e
    · rename_i hq
      split at e
      · injection e with e
        subst e
        exact ⟨l1, l2, fun z => (by cases z), fun z => (by cases z), fun z => (by cases z), bd', by show 0 ≤ _; omega⟩
      · injection e with e
        subst e
        have hl : (popD stk).length = stk.length - 1 := popD_len l1
        have l1' : 1 ≤ stk.length := l1
        have l2' : stk.length ≤ 25 := l2
        have : stk.length ≠ 1 := fun z => hq (.inl z)
        exact ⟨by show 1 ≤ (popD stk).length; omega, by show (popD stk).length ≤ 25; omega, fun z => (by cases z), fun z => (by cases z), fun z => (by cases z), popD_bd bd, by show 0 ≤ _; omega⟩
  | num =>
    unfold stepM at e
    dsimp only at e
    split at e
    · cases e
    · rename_i h0
      by_cases h15 : got.length - (if got.head? = some 45 then 1 else 0) = 1500
      · rw [if_pos h15] at e
        cases e
      · rw [if_neg h15] at e
        injection e with e
        subst e
        refine ⟨l1, l2, fun z => (by cases z), fun _ => ?_, fun z => (by cases z), bd', by show (got ++ [c]).length ≤ _; rw [List.length_append, List.length_singleton]; have : got.length ≤ n + 4 := gl; omega⟩
        rcases nu rfl with hg | ⟨sg, ds, hg, hs, hd, ha, hl⟩
        · have hg : got = [45] := hg
          subst hg
          have hc : 49 ≤ c ∧ c ≤ 57 := by
            by_cases z : 49 ≤ c ∧ c ≤ 57
            · exact z
            · exact absurd (.inr ⟨rfl, z⟩) h0
          refine .inr ⟨[45], [c], rfl, .inr rfl, List.cons_ne_nil _ _, ?_, by show 1 ≤ 1500; decide⟩
          simp only [List.all_cons, List.all_nil, Bool.and_true]
          unfold isDig
          rw [Bool.and_eq_true, decide_eq_true_iff, decide_eq_true_iff]
          omega
        · have hg : got = sg ++ ds := hg
          subst hg
          have hg45 : sg ++ ds ≠ [45] := by
            rcases hs with rfl | rfl
            · intro z
              rw [List.nil_append] at z
              rw [z] at ha
              exact absurd ha (by decide)
            · intro z
              injection z with _ z
              exact hd z
          have hdc : isDig c = true := by
            rcases hp rfl with z | z
            · exact absurd z hg45
            · exact z
          have hlen : (sg ++ ds).length - (if (sg ++ ds).head? = some 45 then 1 else 0) = ds.length := by
            rcases hs with rfl | rfl
            · cases ds with
              | nil => exact absurd rfl hd
              | cons x xs =>
                rw [List.all_cons, Bool.and_eq_true] at ha
                have hx : ¬ x = 45 := fun z => by
                  rw [z] at ha
                  exact absurd ha.1 (by decide)
                simp [hx]
            · simp
          rw [hlen] at h15
          exact .inr ⟨sg, ds ++ [c], by rw [List.append_assoc], hs, by simp, by rw [List.all_append, ha] <;> simp [hdc], by rw [List.length_append, List.length_singleton]; omega⟩
end DD

set_option Elab.async false
set_option linter.all false
set_option maxRecDepth 100000
set_option maxHeartbeats 4000000
/-! Y7 (k80): the law's machine walked. -/
namespace DD
open PySem L2
/-- a value stands on top behind a value -/
def Bh (m : Ms) : Prop := m.md = .beh → ∃ a r, m.stk = a :: r ∧ a ≠ []
theorem pushD_top {d : D} {stk : List (List D)} (h : 1 ≤ stk.length) : ∃ a r, pushD d stk = a :: r ∧ a ≠ [] := by
  cases stk with
  | nil => exact absurd h (by decide)
  | cons a r => exact ⟨a ++ [d], r, rfl, by simp⟩
theorem popD_top {stk : List (List D)} (h : 2 ≤ stk.length) : ∃ a r, popD stk = a :: r ∧ a ≠ [] := by
  cases stk with
  | nil => exact absurd h (by decide)
  | cons a r => exact pushD_top (by rw [List.length_cons] at h; omega)
theorem Bh.pre {n : Nat} {m : Ms} {c : Nat} (h : Vd n m) (k : Bh m) : Bh (preM c m) := by
  obtain ⟨stk, md, got, bg⟩ := m
  cases md with
  | num =>
    unfold preM
    dsimp only
    split
    · exact fun _ => pushD_top h.l1
    · exact k
  | _ => exact k
theorem begun_bh {stk : List (List D)} {c : Nat} {r got bg : List Nat} {first : Bool} {md : Md} {s' : Ms} (fs : first = true → 2 ≤ stk.length) (e : begunM c r ⟨stk, md, got, bg⟩ first = .go s') : Bh s' := by
  unfold begunM at e
  dsimp only at e
  split at e
  · split at e
    · cases e
    · injection e with e
      subst e
      intro z
      cases z
  · split at e
    · rename_i hc
      injection e with e
      subst e
      exact fun _ => popD_top (fs hc.2)
    · split at e
      · injection e with e
        subst e
        intro z
        cases z
      · split at e
        · injection e with e
          subst e
          intro z
          cases z
        · split at e
          · injection e with e
            subst e
            intro z
            cases z
          · cases e
theorem Bh.step {n : Nat} {m m' : Ms} {c : Nat} {r : List Nat} (h : Vd n m) (e : stepM c r m = .go m') : Bh m' := by
  obtain ⟨stk, md, got, bg⟩ := m
  have l1 : 1 ≤ stk.length := h.l1
  cases md with
  | val => exact begun_bh (md := .val) (got := got) (bg := bg) (fun z => (by cases z)) e
  | fst => exact begun_bh (md := .fst) (got := got) (bg := bg) (fun _ => h.fs rfl) e
  | txt =>
    unfold stepM at e
    dsimp only at e
    split at e
    · injection e with e
      subst e
      exact fun _ => pushD_top l1
    · split at e
      · injection e with e
        subst e
        intro z
        cases z
      · split at e
        · cases e
        · injection e with e
          subst e
          intro z
          cases z
  | esc =>
    unfold stepM at e
    dsimp only at e
    split at e
    · injection e with e
      subst e
      intro z
      cases z
    · cases e
  | word =>
    unfold stepM at e
    dsimp only at e
    split at e
    · cases e
    · split at e
      · injection e with e
        subst e
        exact fun _ => pushD_top l1
      · injection e with e
        subst e
        intro z
        cases z
  | beh =>
    unfold stepM at e
    dsimp only at e
    split at e
    · cases e
    · rename_i hq
      split at e
      · injection e with e
        subst e
        intro z
        cases z
      · injection e with e
        subst e
        have : stk.length ≠ 1 := fun z => hq (.inl z)
        exact fun _ => popD_top (by omega)
  | num =>
    unfold stepM at e
    dsimp only at e
    split at e
    · cases e
    · by_cases h15 : got.length - (if got.head? = some 45 then 1 else 0) = 1500
      · rw [if_pos h15] at e
        cases e
      · rw [if_neg h15] at e
        injection e with e
        subst e
        intro z
        cases z
theorem preM_num {m : Ms} {c : Nat} (h : (preM c m).md = .num) : (preM c m).got = [45] ∨ isDig c = true := by
  obtain ⟨stk, md, got, bg⟩ := m
  cases md with
  | num =>
    unfold preM at h ⊢
    dsimp only at h ⊢
    by_cases hq : got ≠ [45] ∧ isDig c = false
    · rw [if_pos hq] at h
      cases h
    · rw [if_neg hq]
      by_cases h1 : got = [45]
      · exact .inl h1
      · refine .inr ?_
        cases q : isDig c with
        | true => rfl
        | false => exact absurd ⟨h1, q⟩ hq
  | _ => cases h
/-- a number's text as the machine has it -/
theorem num_text {got : List Nat} (h : NumOk got) (h45 : got ≠ [45]) (hl : got.length ≤ 4300) : ∃ n : Int, intText? (S got) = some n ∧ intOf got = .int n := by
  rcases h with h | ⟨sg, ds, rfl, hs, hd, ha, hl2⟩
  · exact absurd h h45
  · rcases hs with rfl | rfl
    · refine ⟨_, SX.int_S ha hd hl, ?_⟩
      cases ds with
      | nil => exact absurd rfl hd
      | cons c r =>
        rw [List.all_cons, Bool.and_eq_true] at ha
        have hc : ¬ c = 45 := fun z => by
          rw [z] at ha
          exact absurd ha.1 (by decide)
        show (if c = 45 then _ else _) = _
        rw [if_neg hc] <;> rfl
    · refine ⟨_, PySem.intText_neg (x := S ([45] ++ ds)) (cs := ds) rfl (fun c hc => ?_) hd (by rw [SX.S_len]; exact hl), rfl⟩
      have := List.all_eq_true.mp ha c hc
      unfold isDig at this
      rwa [Bool.and_eq_true, decide_eq_true_iff, decide_eq_true_iff] at this
end DD
namespace K80
open PySem PySem.Spec PyProof.Rows L2 DD
/-- the top list, a thing put in whatever came to the heap meanwhile -/
theorem StkAt.topX {H0 H : Hp} {s : Addr} {acc : List D} {stk : List (List D)} (h : StkAt H0 H s (acc :: stk)) (k : Same H0 H) : ∃ (us : List V) (b : Addr) (xs : List V), H s = some (.lst (us ++ [.ref b])) ∧ H b = some (.lst xs) ∧ xs.length = acc.length ∧
    ∀ H', Same H H' → ∀ d v, DAt H' d v → StkAt H0 (upd H' b (.lst (xs ++ [v]))) s ((acc ++ [d]) :: stk) ∧ Same H0 (upd H' b (.lst (xs ++ [v]))) := by
  obtain ⟨us, b, xs, h1, h2, h3, _, _⟩ := h.top k
  refine ⟨us, b, xs, h1, h2, h3, fun H' s' d v hd => ?_⟩
  obtain ⟨us2, b2, xs2, g1, g2, g3, _, g5⟩ := (h.ext s').top (SameT k s')
  have e1 : us2 ++ [V.ref b2] = us ++ [V.ref b] := by
    have := g1.symm.trans (s' _ _ h1)
    injection this with this
    injection this
  have e2 : b2 = b := by
    have := congrArg List.getLast? e1
    rw [List.getLast?_append, List.getLast?_append] at this
    simpa using this
  subst e2
  have e3 : xs2 = xs := by
    have := g2.symm.trans (s' _ _ h2)
    injection this with this
    injection this
  subst e3
  exact g5 d v hd
section
variable {w : World} {K : PySem.W.Frag} {mg : Str → Option Value} {base : Heap}
def initM : Ms := ⟨[[]], .val, [], []⟩
theorem vd_init : Vd (2 * 0) initM := by
  refine ⟨by decide, by decide, fun z => (by cases z), fun z => (by cases z), fun z => (by cases z), fun acc ha => ?_, by show 0 ≤ _; omega⟩
  have : acc = [] := by simpa [initM] using ha
  rw [this]
  exact Nat.le_refl _
def isG : Md → Bool
  | .txt => true
  | .esc => true
  | .word => true
  | .num => true
  | _ => false
def isB : Md → Bool
  | .word => true
  | .num => true
  | _ => false
def kvB : List (Key × V) := [(Sum.inr ("n" : Str), .non), (Sum.inr ("t" : Str), .bl true), (Sum.inr ("f" : Str), .bl false)]
theorem kvB_at {c : Nat} (h : c = 110 ∨ c = 116 ∨ c = 102) (r : List Nat) : ∃ v, valV (mergeK [] kvB) (Sum.inr (S [c])) = some v ∧ ∀ H, DAt H (wordVal (c :: r)) v := by
  rcases h with rfl | rfl | rfl
  · exact ⟨.non, by decide +kernel, fun H => by show DAt H .non _; unfold DAt; rfl⟩
  · exact ⟨.bl true, by decide +kernel, fun H => by show DAt H (.bl true) _; unfold DAt; rfl⟩
  · exact ⟨.bl false, by decide +kernel, fun H => by show DAt H (.bl false) _; unfold DAt; rfl⟩
def spLRead : Sp := fun vs H Q _ => ∃ L : List Nat, vs = [.str (S L)] ∧ L.all okA = true ∧ L.length ≤ 5000 ∧
  (∀ d, runM L initM = .ok d [] → ∀ t v H', Same H H' → DAt H' d v → H' t = some (.tup [.bl true, v]) → Q (.ref t) H') ∧
  (∀ x, runM L initM = .bad x → ∀ t H', Same H H' → H' t = some (.tup [.bl false, .int ((L.length - x.length : Nat) : Int)]) → Q (.ref t) H')
theorem scLR : FnScope ["text", "stack", "mode", "got", "began", "place", "sign", "told", "found"] ["text"] (defScope sLRead) := ⟨rfl, rfl, rfl, by decide +kernel, rfl, by decide +kernel, by decide +kernel⟩
theorem ok_lread {fd : FuncData} (F : FnG K "_law_read" sLRead fd) (IN : Id w K mg base 1 (He.ga K "_law_in_number") ["sign", "got", "began"] spInNum) (IT : Id w K mg base 1 (He.ga K "_law_in_text") ["mode", "sign", "got"] spInText)
    (IB : Id w K mg base 1 (He.ga K "_law_behind_value") ["stack", "sign"] spBehind) (IG : Id w K mg base 1 (He.ga K "_law_begun_value") ["stack", "sign", "mode"] spBegun) (T : Txt PG w K mg) : FnOk PG w K mg base CX0 2 (He.ga K "_law_read") fd ["text"] spLRead := by
  obtain ⟨fN, GN, bN, kN⟩ := IN.ex
  obtain ⟨fT, GT, bT, kT⟩ := IT.ex
  obtain ⟨fB, GB, bB, kB⟩ := IB.ex
  obtain ⟨fG, GG, bG, kG⟩ := IG.ex
  have nd_ := scLR.nd
  refine F.ok scLR (fun vs H Q E h => ?_) (fun cdv A outer s H vs Q E hr h => ⟨_, PSs.nox (
    pss_cons (ps_set (i := 1) nd_ rfl (Or.inl rfl) (pe_lst (pa_cons (pe_lst pa_nil) pa_nil))) <|
    pss_cons (ps_set (i := 2) nd_ rfl (Or.inl rfl) pe_str) <|
    pss_cons (ps_set (i := 3) nd_ rfl (Or.inl rfl) pe_str) <|
    pss_cons (ps_set (i := 4) nd_ rfl (Or.inl rfl) pe_int) <|
    C8.pss_cut (ps_for PassesOwn.never rfl (pi_range1 rfl T.n_range (pa_cons (pe_callB call_len_str (by rfl) T.n_len boot_len (pa_cons (pv 0) pa_nil)) pa_nil)) (pg_name (i := 5) nd_ rfl (Or.inl rfl)) <|
      pss_cons (ps_set (i := 6) nd_ rfl (Or.inl rfl) (pe_ix ix_str (pv 0) (pv 5) (fun _ _ => rfl))) <|
      C8.pss_cut (ps_if (PW.pt (pw_and (pt_cmpR op_eq (pv 2) pe_str (nomark _)) (pw_and (pt_cmpR op_ne (pv 3) pe_str (nomark _)) (pw_and1 (pt_cmpR op_notIn_sign (pv 6) pe_str rfl)))))
        (pss_cons (ps_expr (pe_bm PySem.F.plainAttrs_list PySem.F.slot_list_append PySem.F.type_list_append mt_append (pe_ix ix_list (pv 1) (pe_un un_neg pe_int) (fun _ _ => rfl)) (pa_cons (pe_callTy (Q7.call_int_big T.nd) (by rfl) T.n_int (by decide +kernel) (pa_cons (pv 3) pa_nil)) pa_nil)))
          (pss_one (ps_set (i := 2) nd_ rfl (Or.inl rfl) pe_str))) pss_nil) <|
      pss_one <| ps_if (pt_cmpR op_eq (pv 2) pe_str (nomark _))
        (pss_cons (ps_set (i := 7) nd_ rfl (Or.inl rfl) (pe_call GN hr rfl T.g_l_in_number kN bN .nil pass0 (pa_cons (pv 6) (pa_cons (pv 3) (pa_cons (pv 4) pa_nil))))) <|
         pss_cons (ps_if (pt_cmpR Q7.op_isNotK (pv 7) pe_bl (nomark _)) (pss_one (ps_ret (pe_tup (pa_cons pe_bl (pa_cons (pe_ifExp (pt_cmpR op_lt (pv 7) pe_int (nomark _)) (pv 5) (pv 7)) pa_nil))))) pss_nil) <|
         pss_one (ps_set (i := 3) nd_ rfl (Or.inl rfl) (pe_op op_add_str (pv 3) (pv 6)))) <|
      pss_one <| ps_if (PW.pt (pw_and (pt_cmpR op_eq (pv 2) pe_str (nomark _)) (pw_and1 (pt_cmpR op_eq (pv 6) pe_str (nomark _)))))
        (pss_cons (ps_expr (pe_bm PySem.F.plainAttrs_list PySem.F.slot_list_append PySem.F.type_list_append mt_append (pe_ix ix_list (pv 1) (pe_un un_neg pe_int) (fun _ _ => rfl)) (pa_cons (pv 3) pa_nil)))
          (pss_one (ps_set (i := 2) nd_ rfl (Or.inl rfl) pe_str))) <|
      pss_one <| ps_if (PW.pt (pw_or (pt_cmpR op_eq (pv 2) pe_str (nomark _)) (pw_or1 (pt_cmpR op_eq (pv 2) pe_str (nomark _)))))
        (pss_cons (ps_set (i := 8) nd_ rfl (Or.inl rfl) (pe_call GT hr rfl T.g_l_in_text kT bT .nil pass0 (pa_cons (pv 2) (pa_cons (pv 6) (pa_cons (pv 3) pa_nil))))) <|
         pss_cons (ps_if (pt_cmpR op_isN (pv 8) pe_non (nomark _)) (pss_one (ps_ret (pe_tup (pa_cons pe_bl (pa_cons (pv 5) pa_nil))))) pss_nil) <|
         pss_one (ps_asg (pv 8) (pg_tup rfl (pgs_cons (pg_name (i := 2) nd_ rfl (Or.inl rfl)) (pgs_cons (pg_name (i := 3) nd_ rfl (Or.inl rfl)) pgs_nil))))) <|
      pss_one <| ps_if (pt_cmpR op_eq (pv 2) pe_str (nomark _))
        (pss_cons (ps_if (pt_cmpR op_ne (pv 6) (pe_ix ix_str (pv 3) pe_int (fun _ _ => rfl)) (nomark _)) (pss_one (ps_ret (pe_tup (pa_cons pe_bl (pa_cons (pv 5) pa_nil))))) pss_nil) <|
         pss_cons (ps_set (i := 3) nd_ rfl (Or.inl rfl) (pe_slice sl_str (pv 3) (po_some pe_int) po_none)) <|
         pss_one (ps_if (pt_cmpR op_eq (pv 3) pe_str (nomark _))
           (pss_cons (ps_expr (pe_bm PySem.F.plainAttrs_list PySem.F.slot_list_append PySem.F.type_list_append mt_append (pe_ix ix_list (pv 1) (pe_un un_neg pe_int) (fun _ _ => rfl)) (pa_cons
              (pe_dget (hu_of hr) (pe_disp (pps_cons pe_str pe_non (pps_cons pe_str pe_bl (pps_cons pe_str pe_bl pps_nil))) (by rfl) (by rfl) (fun z => by cases z) (by decide)) (pe_ix ix_str (pv 0) (pv 4) (fun _ _ => rfl)) (fun _ _ => rfl)) pa_nil)))
             (pss_one (ps_set (i := 2) nd_ rfl (Or.inl rfl) pe_str))) pss_nil)) <|
      pss_one <| ps_if (pt_cmpR op_eq (pv 2) pe_str (nomark _))
        (pss_cons (ps_set (i := 2) nd_ rfl (Or.inl rfl) (pe_call GB hr rfl T.g_l_behind_value kB bB .nil pass0 (pa_cons (pv 1) (pa_cons (pv 6) pa_nil)))) <|
         pss_one (ps_if (pt_cmpR op_isN (pv 2) pe_non (nomark _)) (pss_one (ps_ret (pe_tup (pa_cons pe_bl (pa_cons (pv 5) pa_nil))))) pss_nil)) <|
      pss_cons (ps_set (i := 8) nd_ rfl (Or.inl rfl) (pe_call GG hr rfl T.g_l_begun_value kG bG .nil pass0 (pa_cons (pv 1) (pa_cons (pv 6) (pa_cons (pv 2) pa_nil))))) <|
      pss_cons (ps_if (pt_cmpR op_isN (pv 8) pe_non (nomark _)) (pss_one (ps_ret (pe_tup (pa_cons pe_bl (pa_cons (pv 5) pa_nil))))) pss_nil) <|
      pss_cons (ps_asg (pv 8) (pg_tup rfl (pgs_cons (pg_name (i := 2) nd_ rfl (Or.inl rfl)) (pgs_cons (pg_name (i := 3) nd_ rfl (Or.inl rfl)) pgs_nil)))) <|
      pss_one (ps_set (i := 4) nd_ rfl (Or.inl rfl) (pv 5))) <|
    C8.pss_cut (ps_if (PW.pt (pw_and (pt_cmpR op_eq (pv 2) pe_str (nomark _)) (pw_and1 (pt_cmpR op_ne (pv 3) pe_str (nomark _)))))
        (pss_cons (ps_expr (pe_bm PySem.F.plainAttrs_list PySem.F.slot_list_append PySem.F.type_list_append mt_append (pe_ix ix_list (pv 1) (pe_un un_neg pe_int) (fun _ _ => rfl)) (pa_cons (pe_callTy (Q7.call_int_big T.nd) (by rfl) T.n_int (by decide +kernel) (pa_cons (pv 3) pa_nil)) pa_nil)))
          (pss_one (ps_set (i := 2) nd_ rfl (Or.inl rfl) pe_str))) pss_nil) <|
    pss_cons (ps_if (PW.pt (pw_or (pt_cmpR op_ne (pv 2) pe_str (nomark _)) (pw_or1 (pt_cmpR op_gt (pe_callB call_len_seq (by rfl) T.n_len boot_len (pa_cons (pv 1) pa_nil)) pe_int (nomark _))))) (pss_one (ps_ret (pe_tup (pa_cons pe_bl (pa_cons (pe_callB call_len_str (by rfl) T.n_len boot_len (pa_cons (pv 0) pa_nil)) pa_nil))))) pss_nil) <|
    pss_one (ps_ret (pe_tup (pa_cons pe_bl (pa_cons (pe_ix ix_list (pe_ix ix_list (pv 1) pe_int (fun _ _ => rfl)) pe_int (fun _ _ => rfl)) pa_nil))))), ?_⟩)
  · obtain ⟨L, rfl, _⟩ := h
    rfl
  · obtain ⟨L, rfl, hA, hL, k1, k2⟩ := h
    have sz : (1000000 : Nat) < sizeLine := by rw [sizeLine_eq]; decide
    have two : (2 : Nat) ≤ sizeLine := by omega
    have hSL : (S L).length ≤ sizeLine := by rw [SX.S_len]; omega
    refine ⟨Nat.zero_le _, fun b0 nb0 => ⟨by show 1 ≤ sizeLine; omega, fun p np => ?_⟩⟩
    have hs0 : StkAt H (upd (upd H b0 (.lst [])) p (.lst [.ref b0])) p [[]] := by
      have npb : p ≠ b0 := by
        rintro rfl
        rw [upd_same] at np
        cases np
      have np0 : H p = none := by rwa [upd_ne npb] at np
      refine ⟨[b0], upd_same, fun z => npb (by simpa using z), np0, b0, [], [], rfl, by rw [upd_ne (Ne.symm npb), upd_same], DAts.nil, by simp, nb0, rfl⟩
    have sm0 : Same H (upd (upd H b0 (.lst [])) p (.lst [.ref b0])) := SameT (SameN nb0) (SameN np)
    generalize upd (upd H b0 (.lst [])) p (.lst [.ref b0]) = H1 at hs0 sm0 ⊢
    rw [show ("value" : Str) = mdS .val from rfl, show ("number" : Str) = mdS .num from rfl, show ("behind" : Str) = mdS .beh from rfl, show ("text" : Str) = mdS .txt from rfl, show ("escape" : Str) = mdS .esc from rfl, show ("word" : Str) = mdS .word from rfl, lit_e, lit_m, lit_q]
    -- what is told
    have bad : ∀ (x : List Nat) (n : Int) (H' : Hp), runM L initM = .bad x → n = ((L.length - x.length : Nat) : Int) → Same H H' → ∀ t, H' t = none → Q (.ref t) (upd H' t (.tup [.bl false, .int n])) := fun x n H' e hn sm t nt => by
      subst hn
      exact k2 x e t _ (SameT sm (SameN nt)) upd_same
    refine ⟨fun σ H' => ∃ (m : Ms) (g : List Nat) (b : Nat) (x5 x6 x7 x8 : Option V), σ = [some (.str (S L)), some (.ref p), some (.str (mdS m.md)), some (.str (S g)), some (.int (b : Int)), x5, x6, x7, x8] ∧ Same H H' ∧ StkAt H H' p m.stk ∧ Vd (2 * L.length) m ∧ Bh m ∧ (isG m.md = true → g = m.got) ∧ g.length ≤ 2 * L.length + 4 ∧ runM L initM = runM [] m, ?_, ?_⟩
    · refine ⟨_, rfl, S L, rfl, hSL, _, rfl, by rw [SX.S_len]; omega, by rw [SX.S_len]; omega, ?_⟩
      have en : (((S L).length : Nat) : Int).toNat = L.length := by rw [SX.S_len, Int.toNat_natCast]
      rw [en]
      refine for_range (n := L.length) (fun i σ H' => ∃ (m : Ms) (g : List Nat) (b : Nat) (x5 x6 x7 x8 : Option V), σ = [some (.str (S L)), some (.ref p), some (.str (mdS m.md)), some (.str (S g)), some (.int (b : Int)), x5, x6, x7, x8] ∧ Same H H' ∧ StkAt H H' p m.stk ∧ Vd (2 * i) m ∧ Bh m ∧ (isG m.md = true → g = m.got) ∧ (isB m.md = true → m.bg = L.drop b ∧ b < L.length) ∧ g.length ≤ 2 * i + 4 ∧ runM L initM = runM (L.drop i) m) ?_ ?_ ?_
      · exact ⟨initM, [], 0, _, _, _, _, rfl, sm0, hs0, vd_init, fun z => (by cases z), fun z => (by cases z), fun z => (by cases z), by show 0 ≤ _; omega, rfl⟩
      · rintro i _ H2 hi ⟨m, g, b, x5, x6, x7, x8, rfl, sm, hs, hV, hB, hg, hbg, hgl, hr0⟩
        have hdr : L.drop i = L[i] :: L.drop (i + 1) := List.drop_eq_getElem_cons hi
        rw [hdr] at hr0
        have hat : atI (S L).cps.toList (0 + (i : Int)) = some L[i] := by
          rw [Int.zero_add]
          exact atI_nat (List.getElem?_eq_getElem hi)
        have hlast : ((L.length - (L[i] :: L.drop (i + 1)).length : Nat) : Int) = 0 + (i : Int) := by
          rw [← hdr, List.length_drop]
          omega
        generalize L[i] = c at hr0 hat hlast hdr
        generalize hr : L.drop (i + 1) = r at hr0 hlast hdr
        have hV1 := hV.pre (c := c)
        have hB1 := Bh.pre (c := c) hV hB
        have hnum := preM_num (m := m) (c := c)
        have hr1 : runM L initM = (match stepM c r (preM c m) with | .stop x => Rs.bad x | .go s' => runM r s') := hr0
        refine ⟨_, rfl, _, rfl, S L, _, c, rfl, rfl, hSL, hat, ?_⟩
        refine ⟨fun σ H' => σ = [some (.str (S L)), some (.ref p), some (.str (mdS (preM c m).md)), some (.str (S g)), some (.int (b : Int)), some (.int (0 + (i : Int))), some (.str (S [c])), x7, x8] ∧ Same H H' ∧ StkAt H H' p (preM c m).stk ∧ (isG (preM c m).md = true → g = (preM c m).got) ∧ (isB (preM c m).md = true → (preM c m).bg = L.drop b ∧ b < L.length), ?_, ?_⟩
        · clear hV1 hB1 hnum hr1 hr0
          obtain ⟨stk, md, got, bg⟩ := m
          refine ⟨_, rfl, rfl, _, rfl, ?_⟩
          rw [mdS_eq]
          cases md with
          | num =>
            have hgg : g = got := hg rfl
            subst hgg
            refine iteC (fun _ => ⟨_, rfl, rfl, _, rfl, ?_⟩) (fun z => absurd rfl z)
            have same : ¬ (g ≠ [45] ∧ isDig c = false) → preM c ⟨stk, .num, g, bg⟩ = ⟨stk, .num, g, bg⟩ := fun z => if_neg z
            refine iteNC (fun q => ⟨_, rfl, c, _, rfl, rfl, _, rfl, ?_⟩) (fun q => iteF ?_)
            · have h45 : g ≠ [45] := fun z => q (eqL.mpr z)
              refine iteNC (fun q3 => ?_) (fun q3 => ?_)
              · have hd : isDig c = false := by
                  cases z : isDig c with
                  | false => rfl
                  | true => exact absurd (dig_in.mpr z) q3
                have hpre : preM c ⟨stk, .num, g, bg⟩ = ⟨pushD (intOf g) stk, .beh, [], []⟩ := if_pos ⟨h45, hd⟩
                have hok := hV.nu rfl
                have hl4 : g.length ≤ 4300 := by
                  rcases hok with z | ⟨sg, ds, z, hsg, _, _, hl⟩
                  · have z : g = [45] := z
                    exact absurd z h45
                  · have z : g = sg ++ ds := z
                    rw [z, List.length_append]
                    rcases hsg with y | y <;> (rw [y]; simp only [List.length_nil, List.length_singleton]; omega)
                obtain ⟨n, hn1, hn2⟩ := num_text hok h45 hl4
                rw [hpre]
                cases stk with
                | nil => exact absurd hV.l1 (show ¬ 1 ≤ 0 by decide)
                | cons acc st =>
                  obtain ⟨us, b', xs, hv, hb', hxl, hput⟩ := hs.topX sm
                  obtain ⟨hs', sm'⟩ := hput H2 (fun _ _ z => z) (intOf g) (.int n) (by rw [hn2]; unfold DAt; rfl)
                  have hxb := hV.bd acc List.mem_cons_self
                  exact ⟨_, rfl, _, rfl, p, _, -1, .ref b', rfl, rfl, SqL.of hv, atI_last _ _, .inl ⟨rfl, _, SqL.of hb'⟩, _, rfl, S g, n, rfl, hn1, by rw [SX.S_len]; exact hl4, b', xs, .int n, rfl, rfl, hb', by omega, rfl, sm', hs', fun z => (by cases z), fun z => (by cases z)⟩
              · have hp := same fun z => by
                  have := dig_in.mp q3
                  rw [this] at z
                  cases z.2
                rw [hp]
                exact ⟨rfl, sm, hs, hg, hbg⟩
            · have hp := same fun z => z.1 (eqL.mp q)
              rw [hp]
              exact ⟨rfl, sm, hs, hg, hbg⟩
          | val => exact iteC (fun z => nomatch z) (fun _ => iteF ⟨rfl, sm, hs, hg, hbg⟩)
          | fst => exact iteC (fun z => nomatch z) (fun _ => iteF ⟨rfl, sm, hs, hg, hbg⟩)
          | txt => exact iteC (fun z => nomatch z) (fun _ => iteF ⟨rfl, sm, hs, hg, hbg⟩)
          | esc => exact iteC (fun z => nomatch z) (fun _ => iteF ⟨rfl, sm, hs, hg, hbg⟩)
          | word => exact iteC (fun z => nomatch z) (fun _ => iteF ⟨rfl, sm, hs, hg, hbg⟩)
          | beh => exact iteC (fun z => nomatch z) (fun _ => iteF ⟨rfl, sm, hs, hg, hbg⟩)
        · rintro _ H3 ⟨rfl, sm3, hs3, hg3, hb3⟩
          clear hs sm hV hB hg hbg hr0
          generalize preM c m = m1 at hV1 hB1 hnum hr1 hs3 hg3 hb3
          obtain ⟨stk, md, got, bg⟩ := m1
          have stopx : ∀ x, stepM c r ⟨stk, md, got, bg⟩ = .stop x → runM L initM = .bad x := fun x e => by rw [hr1, e]
          have gox : ∀ s', stepM c r ⟨stk, md, got, bg⟩ = .go s' → runM L initM = runM r s' ∧ Vd (2 * (i + 1)) s' ∧ Bh s' := fun s' e => ⟨by rw [hr1, e], hV1.step hnum e, Bh.step hV1 e⟩
          have hgl1 : g.length ≤ 50000 := by omega
          refine ⟨_, rfl, rfl, _, rfl, ?_⟩
          rw [mdS_eq]
          cases md with
          | num =>
            have hgg : g = got := hg3 rfl
            subst hgg
            obtain ⟨hb1, hb2⟩ := hb3 rfl
            have hb1 : bg = L.drop b := hb1
            have hne : g ≠ [] := by
              rcases hV1.nu rfl with z | ⟨sg, ds, z, _, hd, _, _⟩
              · have z : g = [45] := z
                rw [z]
                exact List.cons_ne_nil _ _
              · have z : g = sg ++ ds := z
                rw [z]
                simp [hd]
            refine iteC (fun _ => ?_) (fun z => absurd rfl z)
            refine ⟨_, rfl, _, rfl, _, rfl, c, g, b, rfl, hne, by omega, ?_⟩
            by_cases c1 : g = [48] ∨ (g = [45] ∧ ¬ (49 ≤ c ∧ c ≤ 57))
            · rw [if_pos c1]
              have e : stepM c r ⟨stk, .num, g, bg⟩ = .stop (c :: r) := if_pos c1
              refine ⟨_, rfl, true, rfl, rfl, _, rfl, ?_⟩
              refine iteNC (fun _ => ?_) (fun z => nomatch z)
              refine ⟨_, rfl, _, _, rfl, rfl, _, rfl, ?_⟩
              exact iteC (fun _ => ⟨_, rfl, two, fun t nt => bad _ _ H3 (stopx _ e) hlast.symm sm3 t nt⟩) (fun z => absurd (by decide) z)
            · rw [if_neg c1]
              by_cases c2 : g.length - (if g.head? = some 45 then 1 else 0) = 1500
              · rw [if_pos c2]
                have e : stepM c r ⟨stk, .num, g, bg⟩ = .stop bg := (if_neg c1).trans (if_pos c2)
                refine ⟨_, rfl, true, rfl, rfl, _, rfl, ?_⟩
                refine iteNC (fun _ => ?_) (fun z => nomatch z)
                refine ⟨_, rfl, _, _, rfl, rfl, _, rfl, ?_⟩
                exact iteC (fun z => absurd z (by omega)) (fun _ => ⟨_, rfl, two, fun t nt => bad _ _ H3 (stopx _ e) (by rw [hb1, List.length_drop]; omega) sm3 t nt⟩)
              · rw [if_neg c2]
                have e : stepM c r ⟨stk, .num, g, bg⟩ = .go ⟨stk, .num, g ++ [c], bg⟩ := (if_neg c1).trans (if_neg c2)
                obtain ⟨e1, e2, e3⟩ := gox _ e
                refine ⟨_, rfl, true, rfl, rfl, _, rfl, ?_⟩
                refine iteNC (fun z => absurd rfl z) (fun _ => ?_)
                refine ⟨_, rfl, _, rfl, _, _, rfl, rfl, by rw [SX.S_len, SX.S_len, List.length_singleton]; omega, ?_⟩
                rw [S_app]
                exact ⟨⟨stk, .num, g ++ [c], bg⟩, g ++ [c], b, _, _, _, _, rfl, sm3, hs3, e2, e3, fun _ => rfl, fun _ => ⟨hb1, hb2⟩, by rw [List.length_append, List.length_singleton]; omega, e1⟩
          | txt =>
            have hgg : g = got := hg3 rfl
            subst hgg
            refine iteC (fun z => nomatch z) (fun _ => ⟨_, rfl, rfl, _, rfl, ?_⟩)
            refine iteC (fun _ => ⟨_, rfl, rfl, _, rfl, ?_⟩) (fun z => absurd rfl z)
            refine iteC (fun q => ?_) (fun q => ?_)
            · have e : stepM c r ⟨stk, .txt, g, bg⟩ = .go ⟨pushD (.str g) stk, .beh, [], []⟩ := if_pos (eqS.mp q)
              obtain ⟨e1, e2, e3⟩ := gox _ e
              cases stk with
              | nil => exact absurd hV1.l1 (show ¬ 1 ≤ 0 by decide)
              | cons acc st =>
                obtain ⟨us, b', xs, hv, hb', hxl, hput⟩ := hs3.topX sm3
                obtain ⟨hs', sm'⟩ := hput H3 (fun _ _ z => z) (.str g) (.str (S g)) (by unfold DAt; rfl)
                have hxb := hV1.bd acc List.mem_cons_self
                exact ⟨_, rfl, _, rfl, p, _, -1, .ref b', rfl, rfl, SqL.of hv, atI_last _ _, .inl ⟨rfl, _, SqL.of hb'⟩, _, rfl, b', xs, _, rfl, rfl, hb', by omega, ⟨pushD (.str g) (acc :: st), .beh, [], []⟩, g, b, _, _, _, _, rfl, sm', hs', e2, e3, fun z => (by cases z), fun z => (by cases z), by omega, e1⟩
            · refine ⟨_, rfl, rfl, _, rfl, ?_⟩
              refine iteC (fun _ => iteT ?_) (fun z => absurd rfl z)
              refine ⟨_, rfl, _, rfl, _, rfl, .txt, c, g, rfl, .inl rfl, fun _ z => q (eqS.mpr z), by omega, stk, bg, r, fun x e => ?_, fun s' e t nt => ?_⟩
              · have hx : x = c :: r := by
                  unfold stepM at e
                  dsimp only at e
                  split at e
                  · cases e
                  · split at e
                    · cases e
                    · split at e
                      · injection e with e; exact e.symm
                      · cases e
                subst hx
                refine ⟨_, rfl, rfl, _, rfl, ?_⟩
                exact iteC (fun _ => ⟨_, rfl, two, fun t nt => bad _ _ H3 (stopx _ e) hlast.symm sm3 t nt⟩) (fun z => absurd rfl z)
              · obtain ⟨e1, e2, e3⟩ := gox _ e
                have hs' : s'.stk = stk ∧ isB s'.md = false ∧ s'.got.length ≤ g.length + 1 := by
                  unfold stepM at e
                  dsimp only at e
                  rw [if_neg (fun z => q (eqS.mpr z))] at e
                  split at e
                  · injection e with e; subst e; exact ⟨rfl, rfl, by show g.length ≤ _; omega⟩
                  · split at e
                    · cases e
                    · injection e with e; subst e; exact ⟨rfl, rfl, by show (g ++ [c]).length ≤ _; rw [List.length_append, List.length_singleton]; omega⟩
                refine ⟨_, rfl, rfl, _, rfl, ?_⟩
                refine iteC (fun z => nomatch z) (fun _ => ⟨_, rfl, t, _, rfl, SqT.of upd_same, rfl, _, _, rfl, _, _, rfl, rfl, ?_⟩)
                exact ⟨s', s'.got, b, _, _, _, _, rfl, SameT sm3 (SameN nt), by rw [hs'.1]; exact hs3.ext (SameN nt), e2, e3, fun _ => rfl, fun z => (by rw [hs'.2.1] at z; cases z), by omega, e1⟩
          | esc =>
            have hgg : g = got := hg3 rfl
            subst hgg
            refine iteC (fun z => nomatch z) (fun _ => ⟨_, rfl, rfl, _, rfl, ?_⟩)
            rw [mdS_eq]
            refine iteC (fun z => nomatch z) (fun _ => iteF ⟨_, rfl, rfl, _, rfl, ?_⟩)
            rw [mdS_eq]
            refine iteC (fun z => nomatch z) (fun _ => ⟨_, rfl, rfl, _, rfl, ?_⟩)
            refine iteC (fun _ => ?_) (fun z => absurd rfl z)
            refine ⟨_, rfl, _, rfl, _, rfl, .esc, c, g, rfl, .inr rfl, fun z => (by cases z), by omega, stk, bg, r, fun x e => ?_, fun s' e t nt => ?_⟩
            · have hx : x = c :: r := by
                unfold stepM at e
                dsimp only at e
                split at e
                · cases e
                · injection e with e; exact e.symm
              subst hx
              refine ⟨_, rfl, rfl, _, rfl, ?_⟩
              exact iteC (fun _ => ⟨_, rfl, two, fun t nt => bad _ _ H3 (stopx _ e) hlast.symm sm3 t nt⟩) (fun z => absurd rfl z)
            · obtain ⟨e1, e2, e3⟩ := gox _ e
              have hs' : s'.stk = stk ∧ isB s'.md = false ∧ s'.got.length ≤ g.length + 1 := by
                unfold stepM at e
                dsimp only at e
                split at e
                · injection e with e; subst e; exact ⟨rfl, rfl, by show (g ++ [_]).length ≤ _; rw [List.length_append, List.length_singleton]; omega⟩
                · cases e
              refine ⟨_, rfl, rfl, _, rfl, ?_⟩
              refine iteC (fun z => nomatch z) (fun _ => ⟨_, rfl, t, _, rfl, SqT.of upd_same, rfl, _, _, rfl, _, _, rfl, rfl, ?_⟩)
              exact ⟨s', s'.got, b, _, _, _, _, rfl, SameT sm3 (SameN nt), by rw [hs'.1]; exact hs3.ext (SameN nt), e2, e3, fun _ => rfl, fun z => (by rw [hs'.2.1] at z; cases z), by omega, e1⟩
          | word =>
            have hgg : g = got := hg3 rfl
            subst hgg
            obtain ⟨hb1, hb2⟩ := hb3 rfl
            have hb1 : bg = L.drop b := hb1
            obtain ⟨hne, c0, r0, hbg, hc0⟩ := hV1.wo rfl
            have hbg : bg = c0 :: r0 := hbg
            refine iteC (fun z => nomatch z) (fun _ => ⟨_, rfl, rfl, _, rfl, ?_⟩)
            rw [mdS_eq]
            refine iteC (fun z => nomatch z) (fun _ => iteF ⟨_, rfl, rfl, _, rfl, ?_⟩)
            rw [mdS_eq]
            refine iteC (fun z => nomatch z) (fun _ => ⟨_, rfl, rfl, _, rfl, ?_⟩)
            rw [mdS_eq]
            refine iteC (fun z => nomatch z) (fun _ => ⟨_, rfl, rfl, _, rfl, ?_⟩)
            rw [mdS_eq]
            refine iteC (fun _ => ?_) (fun z => absurd rfl z)
            cases g with
            | nil => exact absurd rfl hne
            | cons w0 ws =>
              rw [List.length_cons] at hgl1 hgl
              have hwl : (S (w0 :: ws)).length ≤ sizeLine := by rw [SX.S_len, List.length_cons]; omega
              refine ⟨_, rfl, _, rfl, S (w0 :: ws), 0, w0, rfl, rfl, hwl, atI_nat (j := 0) rfl, rfl, _, rfl, ?_⟩
              refine iteNC (fun q => ?_) (fun q => ?_)
              · have e : stepM c r ⟨stk, .word, w0 :: ws, bg⟩ = .stop (c :: r) := if_pos (fun z => q (eqS.mpr (Option.some.inj z).symm))
                exact ⟨_, rfl, two, fun t nt => bad _ _ H3 (stopx _ e) hlast.symm sm3 t nt⟩
              · have hcw : c = w0 := eqS.mp q
                have hhd : ¬ (w0 :: ws).head? ≠ some c := fun z => z (by rw [hcw] <;> rfl)
                refine ⟨_, rfl, _, rfl, _, rfl, hwl, ?_⟩
                have hcut : cutS (S (w0 :: ws)) (some 1) none = S ws := by
                  unfold cutS
                  rw [show (1 : Int) = ((1 : Nat) : Int) from rfl, HT.sIx_nat, HT.sIx_none, SX.S_len]
                  have e1 : min 1 (w0 :: ws).length = 1 := by rw [List.length_cons]; omega
                  rw [e1]
                  show S (((w0 :: ws).drop 1).take _) = _
                  congr 1
                  show ws.take _ = ws
                  exact List.take_of_length_le (by rw [List.length_cons]; omega)
                rw [hcut]
                refine ⟨_, rfl, rfl, _, rfl, ?_⟩
                refine iteC (fun q2 => ?_) (fun q2 => ?_)
                · have hws : ws = [] := eqL.mp q2
                  subst hws
                  have e : stepM c r ⟨stk, .word, [w0], bg⟩ = .go ⟨pushD (wordVal bg) stk, .beh, [], []⟩ := (if_neg hhd).trans (if_pos rfl)
                  obtain ⟨e1, e2, e3⟩ := gox _ e
                  cases stk with
                  | nil => exact absurd hV1.l1 (show ¬ 1 ≤ 0 by decide)
                  | cons acc st =>
                    obtain ⟨us, b', xs, hv, hb', hxl, hput⟩ := hs3.topX sm3
                    have hxb := hV1.bd acc List.mem_cons_self
                    obtain ⟨v, hv1, hv2⟩ := kvB_at hc0 r0
                    have hLb : L[b]? = some c0 := by
                      have := hb1.symm.trans hbg
                      rw [List.drop_eq_getElem_cons hb2] at this
                      injection this with this _
                      rw [List.getElem?_eq_getElem hb2, this]
                    refine ⟨_, rfl, _, rfl, p, _, -1, .ref b', rfl, rfl, SqL.of hv, atI_last _ _, .inl ⟨rfl, _, SqL.of hb'⟩, fun dd ndd => ⟨upd_same, kvB, rfl, by decide, ?_⟩⟩
                    have sd : Same H3 (upd (upd H3 dd (.dK [])) dd (.dK (mergeK [] kvB))) := fun b o z => by
                      rw [upd_ne (ne_of_none z ndd), upd_ne (ne_of_none z ndd)]
                      exact z
                    have hg : DGet (upd (upd H3 dd (.dK [])) dd (.dK (mergeK [] kvB))) dd (.str (S [c0])) (some v) := by
                      have := DGet.k (H := upd (upd H3 dd (.dK [])) dd (.dK (mergeK [] kvB))) (k := Sum.inr (S [c0])) upd_same
                      rw [hv1] at this
                      exact this
                    obtain ⟨hs', sm'⟩ := hput _ sd (wordVal bg) v (by have hbg' : bg = c0 :: r0 := hbg; rw [hbg']; exact hv2 _)
                    exact ⟨_, rfl, _, rfl, S L, _, c0, rfl, rfl, hSL, atI_nat hLb, dd, v, rfl, hg, b', xs, v, rfl, rfl, sd _ _ hb', by omega, ⟨pushD (wordVal bg) (acc :: st), .beh, [], []⟩, [], b, _, _, _, _, rfl, sm', hs', e2, e3, fun z => (by cases z), fun z => (by cases z), by show 0 ≤ _; omega, e1⟩
                · have hws : ws ≠ [] := fun z => q2 (eqL.mpr z)
                  have e : stepM c r ⟨stk, .word, w0 :: ws, bg⟩ = .go ⟨stk, .word, ws, bg⟩ := (if_neg hhd).trans (if_neg hws)
                  obtain ⟨e1, e2, e3⟩ := gox _ e
                  exact ⟨⟨stk, .word, ws, bg⟩, ws, b, _, _, _, _, rfl, sm3, hs3, e2, e3, fun _ => rfl, fun _ => ⟨hb1, hb2⟩, by omega, e1⟩
          | beh =>
            refine iteC (fun z => nomatch z) (fun _ => ⟨_, rfl, rfl, _, rfl, ?_⟩)
            rw [mdS_eq]
            refine iteC (fun z => nomatch z) (fun _ => iteF ⟨_, rfl, rfl, _, rfl, ?_⟩)
            rw [mdS_eq]
            refine iteC (fun z => nomatch z) (fun _ => ⟨_, rfl, rfl, _, rfl, ?_⟩)
            rw [mdS_eq]
            refine iteC (fun z => nomatch z) (fun _ => ⟨_, rfl, rfl, _, rfl, ?_⟩)
            rw [mdS_eq]
            refine iteC (fun z => nomatch z) (fun _ => ⟨_, rfl, rfl, _, rfl, ?_⟩)
            rw [mdS_eq]
            refine iteC (fun _ => ?_) (fun z => absurd rfl z)
            refine ⟨_, rfl, _, rfl, p, c, stk, H, rfl, hs3, sm3, hV1.l1, hV1.l2, fun acc ha => Nat.le_trans (hV1.bd acc ha) (by omega), r, fun x e => ?_, fun s' e H' sm' hs' => ?_⟩
            · have hx : x = c :: r := by
                unfold stepM at e
                dsimp only at e
                split at e
                · injection e with e; exact e.symm
                · split at e <;> cases e
              subst hx
              refine ⟨_, rfl, rfl, _, rfl, ?_⟩
              exact iteC (fun _ => ⟨_, rfl, two, fun t nt => bad _ _ H3 (stopx _ e) hlast.symm sm3 t nt⟩) (fun z => absurd rfl z)
            · obtain ⟨e1, e2, e3⟩ := gox _ e
              have hg' : isG s'.md = false ∧ isB s'.md = false := by
                unfold stepM at e
                dsimp only at e
                split at e
                · cases e
                · split at e
                  · injection e with e; subst e; exact ⟨rfl, rfl⟩
                  · injection e with e; subst e; exact ⟨rfl, rfl⟩
              refine ⟨_, rfl, rfl, _, rfl, ?_⟩
              refine iteC (fun z => nomatch z) (fun _ => ?_)
              exact ⟨s', g, b, _, _, _, _, rfl, sm', hs', e2, e3, fun z => (by rw [hg'.1] at z; cases z), fun z => (by rw [hg'.2] at z; cases z), by omega, e1⟩
          | val =>
            refine iteC (fun z => nomatch z) (fun _ => ⟨_, rfl, rfl, _, rfl, ?_⟩)
            rw [mdS_eq]
            refine iteC (fun z => nomatch z) (fun _ => iteF ⟨_, rfl, rfl, _, rfl, ?_⟩)
            rw [mdS_eq]
            refine iteC (fun z => nomatch z) (fun _ => ⟨_, rfl, rfl, _, rfl, ?_⟩)
            rw [mdS_eq]
            refine iteC (fun z => nomatch z) (fun _ => ⟨_, rfl, rfl, _, rfl, ?_⟩)
            rw [mdS_eq]
            refine iteC (fun z => nomatch z) (fun _ => ⟨_, rfl, rfl, _, rfl, ?_⟩)
            rw [mdS_eq]
            refine iteC (fun z => nomatch z) (fun _ => ?_)
            refine ⟨_, rfl, _, rfl, _, rfl, p, c, false, stk, H, rfl, hs3, sm3, hV1.l1, hV1.l2, fun z => (by cases z), fun acc ha => Nat.le_trans (hV1.bd acc ha) (by omega), r, fun x e => ?_, fun s' e q H' sm' hs' hq => ?_⟩
            · have hx : x = c :: r := by
                unfold begunM at e
                dsimp only at e
                split at e
                · split at e
                  · injection e with e; exact e.symm
                  · cases e
                · split at e
                  · cases e
                  · split at e
                    · cases e
                    · split at e
                      · cases e
                      · split at e
                        · cases e
                        · injection e with e; exact e.symm
              subst hx
              refine ⟨_, rfl, rfl, _, rfl, ?_⟩
              exact iteC (fun _ => ⟨_, rfl, two, fun t nt => bad _ _ H3 (stopx _ e) hlast.symm sm3 t nt⟩) (fun z => absurd rfl z)
            · obtain ⟨e1, e2, e3⟩ := gox _ e
              have hbg : isB s'.md = true → s'.bg = c :: r := fun z => by
                unfold begunM at e
                dsimp only at e
                split at e
                · split at e
                  · cases e
                  · injection e with e; subst e; cases z
                · split at e
                  · injection e with e; subst e; cases z
                  · split at e
                    · injection e with e; subst e; cases z
                    · split at e
                      · injection e with e; subst e; rfl
                      · split at e
                        · injection e with e; subst e; rfl
                        · cases e
              refine ⟨_, rfl, rfl, _, rfl, ?_⟩
              refine iteC (fun z => nomatch z) (fun _ => ⟨_, rfl, q, _, rfl, SqT.of hq, rfl, _, _, rfl, _, _, rfl, rfl, _, rfl, ?_⟩)
              refine ⟨s', s'.got, i, some (.int (0 + (i : Int))), some (.str (S [c])), x7, some (.ref q), ?_, sm', hs', e2, e3, fun _ => rfl, fun z => ⟨(hbg z).trans hdr.symm, hi⟩, e2.gl, e1⟩
              show [some (V.str (S L)), some (V.ref p), some (V.str (mdS s'.md)), some (V.str (S s'.got)), some (V.int (0 + (i : Int))), some (V.int (0 + (i : Int))), some (V.str (S [c])), x7, some (V.ref q)] = _
              rw [Int.zero_add]
          | fst =>
            refine iteC (fun z => nomatch z) (fun _ => ⟨_, rfl, rfl, _, rfl, ?_⟩)
            rw [mdS_eq]
            refine iteC (fun z => nomatch z) (fun _ => iteF ⟨_, rfl, rfl, _, rfl, ?_⟩)
            rw [mdS_eq]
            refine iteC (fun z => nomatch z) (fun _ => ⟨_, rfl, rfl, _, rfl, ?_⟩)
            rw [mdS_eq]
            refine iteC (fun z => nomatch z) (fun _ => ⟨_, rfl, rfl, _, rfl, ?_⟩)
            rw [mdS_eq]
            refine iteC (fun z => nomatch z) (fun _ => ⟨_, rfl, rfl, _, rfl, ?_⟩)
            rw [mdS_eq]
            refine iteC (fun z => nomatch z) (fun _ => ?_)
            refine ⟨_, rfl, _, rfl, _, rfl, p, c, true, stk, H, rfl, hs3, sm3, hV1.l1, hV1.l2, fun _ => hV1.fs rfl, fun acc ha => Nat.le_trans (hV1.bd acc ha) (by omega), r, fun x e => ?_, fun s' e q H' sm' hs' hq => ?_⟩
            · have hx : x = c :: r := by
                unfold begunM at e
                dsimp only at e
                split at e
                · split at e
                  · injection e with e; exact e.symm
                  · cases e
                · split at e
                  · cases e
                  · split at e
                    · cases e
                    · split at e
                      · cases e
                      · split at e
                        · cases e
                        · injection e with e; exact e.symm
              subst hx
              refine ⟨_, rfl, rfl, _, rfl, ?_⟩
              exact iteC (fun _ => ⟨_, rfl, two, fun t nt => bad _ _ H3 (stopx _ e) hlast.symm sm3 t nt⟩) (fun z => absurd rfl z)
            · obtain ⟨e1, e2, e3⟩ := gox _ e
              have hbg : isB s'.md = true → s'.bg = c :: r := fun z => by
                unfold begunM at e
                dsimp only at e
                split at e
                · split at e
                  · cases e
                  · injection e with e; subst e; cases z
                · split at e
                  · injection e with e; subst e; cases z
                  · split at e
                    · injection e with e; subst e; cases z
                    · split at e
                      · injection e with e; subst e; rfl
                      · split at e
                        · injection e with e; subst e; rfl
                        · cases e
              refine ⟨_, rfl, rfl, _, rfl, ?_⟩
              refine iteC (fun z => nomatch z) (fun _ => ⟨_, rfl, q, _, rfl, SqT.of hq, rfl, _, _, rfl, _, _, rfl, rfl, _, rfl, ?_⟩)
              refine ⟨s', s'.got, i, some (.int (0 + (i : Int))), some (.str (S [c])), x7, some (.ref q), ?_, sm', hs', e2, e3, fun _ => rfl, fun z => ⟨(hbg z).trans hdr.symm, hi⟩, e2.gl, e1⟩
              show [some (V.str (S L)), some (V.ref p), some (V.str (mdS s'.md)), some (V.str (S s'.got)), some (V.int (0 + (i : Int))), some (V.int (0 + (i : Int))), some (V.str (S [c])), x7, some (V.ref q)] = _
              rw [Int.zero_add]
      · rintro _ H2 ⟨m, g, b, x5, x6, x7, x8, rfl, sm, hs, hV, hB, hg, hbg, hgl, hr0⟩
        rw [List.drop_length] at hr0
        exact ⟨m, g, b, x5, x6, x7, x8, rfl, sm, hs, hV, hB, hg, hgl, hr0⟩
    · rintro _ H2 ⟨m, g, b, x5, x6, x7, x8, rfl, sm, hs, hV, hB, hg, hgl, hr0⟩
      have hr1 : runM L initM = lastM (endM m) := hr0
      obtain ⟨stk, md, got, bg⟩ := m
      refine ⟨fun σ H' => σ = [some (.str (S L)), some (.ref p), some (.str (mdS (endM ⟨stk, md, got, bg⟩).md)), some (.str (S g)), some (.int (b : Int)), x5, x6, x7, x8] ∧ Same H H' ∧ StkAt H H' p (endM ⟨stk, md, got, bg⟩).stk ∧ Bh (endM ⟨stk, md, got, bg⟩) ∧ 1 ≤ (endM ⟨stk, md, got, bg⟩).stk.length, ?_, ?_⟩
      · refine ⟨_, rfl, rfl, _, rfl, ?_⟩
        rw [mdS_eq]
        cases md with
        | num =>
          have hgg : g = got := hg rfl
          subst hgg
          refine iteC (fun _ => ⟨_, rfl, rfl, _, rfl, ?_⟩) (fun z => absurd rfl z)
          refine iteNC (fun q => ?_) (fun q => ?_)
          · have h45 : g ≠ [45] := fun z => q (eqL.mpr z)
            have hpre : endM ⟨stk, .num, g, bg⟩ = ⟨pushD (intOf g) stk, .beh, [], []⟩ := if_pos h45
            have hok := hV.nu rfl
            have hl4 : g.length ≤ 4300 := by
              rcases hok with z | ⟨sg, ds, z, hsg, _, _, hl⟩
              · have z : g = [45] := z
                exact absurd z h45
              · have z : g = sg ++ ds := z
                rw [z, List.length_append]
                rcases hsg with y | y <;> (rw [y]; simp only [List.length_nil, List.length_singleton]; omega)
            obtain ⟨n, hn1, hn2⟩ := num_text hok h45 hl4
            rw [hpre]
            cases stk with
            | nil => exact absurd hV.l1 (show ¬ 1 ≤ 0 by decide)
            | cons acc st =>
              obtain ⟨us, b', xs, hv, hb', hxl, hput⟩ := hs.topX sm
              obtain ⟨hs', sm'⟩ := hput H2 (fun _ _ z => z) (intOf g) (.int n) (by rw [hn2]; unfold DAt; rfl)
              have hxb := hV.bd acc List.mem_cons_self
              exact ⟨_, rfl, _, rfl, p, _, -1, .ref b', rfl, rfl, SqL.of hv, atI_last _ _, .inl ⟨rfl, _, SqL.of hb'⟩, _, rfl, S g, n, rfl, hn1, by rw [SX.S_len]; exact hl4, b', xs, .int n, rfl, rfl, hb', by omega, rfl, sm', hs', fun _ => pushD_top hV.l1, by show 1 ≤ (pushD _ (acc :: st)).length; rw [pushD_len]; exact hV.l1⟩
          · have hp : endM ⟨stk, .num, g, bg⟩ = ⟨stk, .num, g, bg⟩ := if_neg (fun z => z (eqL.mp q))
            rw [hp]
            exact ⟨rfl, sm, hs, hB, hV.l1⟩
        | val => exact iteC (fun z => nomatch z) (fun _ => iteF ⟨rfl, sm, hs, hB, hV.l1⟩)
        | fst => exact iteC (fun z => nomatch z) (fun _ => iteF ⟨rfl, sm, hs, hB, hV.l1⟩)
        | txt => exact iteC (fun z => nomatch z) (fun _ => iteF ⟨rfl, sm, hs, hB, hV.l1⟩)
        | esc => exact iteC (fun z => nomatch z) (fun _ => iteF ⟨rfl, sm, hs, hB, hV.l1⟩)
        | word => exact iteC (fun z => nomatch z) (fun _ => iteF ⟨rfl, sm, hs, hB, hV.l1⟩)
        | beh => exact iteC (fun z => nomatch z) (fun _ => iteF ⟨rfl, sm, hs, hB, hV.l1⟩)
      · rintro _ H3 ⟨rfl, sm3, hs3, hB3, hl3⟩
        clear hs sm hV hB hg hr0
        generalize endM ⟨stk, md, got, bg⟩ = m1 at hr1 hs3 hB3 hl3
        obtain ⟨stk1, md1, got1, bg1⟩ := m1
        have fail : runM L initM = .bad [] → ∀ t, H3 t = none → Q (.ref t) (upd H3 t (.tup [.bl false, .int (((S L).length : Nat) : Int)])) := fun e t nt => bad [] _ H3 e (by rw [SX.S_len]; rfl) sm3 t nt
        refine ⟨_, rfl, rfl, _, rfl, ?_⟩
        rw [mdS_eq]
        by_cases hmd : md1 = .beh
        · subst hmd
          refine iteNC (fun z => absurd rfl z) (fun _ => ?_)
          obtain ⟨vs, hv, hvl⟩ := hs3.len
          refine ⟨_, rfl, p, vs, rfl, .inl (SqL.of hv), _, _, rfl, rfl, _, rfl, ?_⟩
          have hvl : vs.length = stk1.length := hvl
          refine iteC (fun q => ?_) (fun q => ?_)
          · have e : runM L initM = .bad [] := by
              rw [hr1]
              cases stk1 with
              | nil => rfl
              | cons a r =>
                cases r with
                | nil =>
                  have h1 : ([a] : List (List D)).length = 1 := rfl
                  omega
                | cons a2 r => cases a <;> rfl
            exact ⟨_, rfl, S L, rfl, hSL, two, fun t nt => fail e t nt⟩
          · obtain ⟨a, r, hst, hane⟩ := hB3 rfl
            have hst : stk1 = a :: r := hst
            subst hst
            have hr' : r = [] := by
              cases r with
              | nil => rfl
              | cons a2 r =>
                simp only [List.length_cons] at hvl
                omega
            subst hr'
            cases a with
            | nil => exact absurd rfl hane
            | cons d ds =>
              obtain ⟨bs, g1, g2, g3, b1, r1, xs, e1, h1, h2, _, _, h5⟩ := hs3
              have e5 : r1 = [] := h5
              subst e5
              subst e1
              unfold DAts at h2
              obtain ⟨v, ys, e6, h6, _⟩ := h2
              subst e6
              have hok : runM L initM = .ok d [] := by rw [hr1] <;> rfl
              refine ⟨_, rfl, p, _, 0, .ref b1, rfl, rfl, SqL.of g1, atI_nat (j := 0) rfl, b1, _, 0, v, rfl, rfl, SqL.of h1, atI_nat (j := 0) rfl, two, fun t nt => ?_⟩
              exact k1 d hok t v _ (SameT sm3 (SameN nt)) (DAt.mono (fun b zs z => SameN nt _ _ z) h6) upd_same
        · have e : runM L initM = .bad [] := by
            rw [hr1]
            cases md1 <;> first | rfl | exact absurd rfl hmd
          refine iteNC (fun _ => iteT ⟨_, rfl, S L, rfl, hSL, two, fun t nt => fail e t nt⟩) (fun z => absurd z hmd)
end
end K80

set_option Elab.async false
set_option linter.all false
set_option maxRecDepth 100000
set_option maxHeartbeats 4000000
/-! Y8 (k80): agrees. -/
namespace DD
open PySem L2
mutual
theorem RD_DB {n : Nat} (hn : n ≤ 5000) : ∀ (d : D), RD n d → DB d
  | .non, _ => by unfold DB; trivial
  | .bl _, _ => by unfold DB; trivial
  | .int i, h => by
    unfold RD at h
    unfold DB
    exact Nat.lt_of_lt_of_le (of_decide_eq_true h) (Nat.pow_le_pow_right (by decide) (by decide))
  | .str s, h => by
    unfold RD at h
    unfold DB
    omega
  | .tup l, h => by
    unfold RD at h
    unfold DB
    exact RDs_DBs hn l h
theorem RDs_DBs {n : Nat} (hn : n ≤ 5000) : ∀ (l : List D), RDs n l → DBs l
  | [], _ => by unfold DBs; trivial
  | d :: l, h => by
    unfold RDs at h
    unfold DBs
    exact ⟨RD_DB hn d h.1, RDs_DBs hn l h.2⟩
end
theorem numL_pos (n : Nat) : numL ((n : Nat) : Int) = TL.numL n := by
  have h1 := SX.num_S n
  rw [K80.numS] at h1
  exact SX.S_inj h1
theorem numL_neg (n : Nat) : numL (Int.negSucc n) = 45 :: TL.numL (n + 1) := by
  have h1 := numL_pos (n + 1)
  unfold numL at h1 ⊢
  have e : (toString (Int.negSucc n)) = "-" ++ toString ((((n + 1 : Nat)) : Int)) := rfl
  rw [e, String.toList_append, List.map_append, h1] <;> rfl
theorem numL_len {i : Int} {k : Nat} (hk : 0 < k) (h : i.natAbs < 10 ^ k) : (numL i).length ≤ k + 1 := by
  cases i with
  | ofNat n =>
    have e : numL (Int.ofNat n) = TL.numL n := numL_pos n
    rw [e]
    have := TL.numL_len hk (show n < 10 ^ k from h)
    omega
  | negSucc n =>
    rw [numL_neg, List.length_cons]
    have := TL.numL_len hk (show n + 1 < 10 ^ k from h)
    omega
theorem sepL_cons (x : List Nat) (ys : List (List Nat)) : sepL (x :: ys) = x ++ (if ys = [] then [] else 32 :: sepL ys) := by
  cases ys with
  | nil => exact (List.append_nil x).symm
  | cons y r => rw [if_neg (List.cons_ne_nil _ _)] <;> rfl
mutual
theorem RD_txt {n : Nat} (hn : 800 ≤ n) : ∀ (d : D), RD n d → (txt d).length + 1 ≤ (2 * n + 4) * nd d
  | .non, _ => by rw [txt, nd_non, Nat.mul_one]; have : wNone.length = 4 := rfl; omega
  | .bl true, _ => by rw [txt, nd_bl, Nat.mul_one]; have : wTrue.length = 4 := rfl; omega
  | .bl false, _ => by rw [txt, nd_bl, Nat.mul_one]; have : wFalse.length = 5 := rfl; omega
  | .int i, h => by
    unfold RD at h
    rw [txt, nd_int, Nat.mul_one]
    have := numL_len (by decide) (of_decide_eq_true h)
    omega
  | .str s, h => by
    unfold RD at h
    rw [txt, nd_str, Nat.mul_one, List.length_cons, List.length_append, List.length_singleton]
    have := K80.esc_len s
    omega
  | .tup l, h => by
    unfold RD at h
    have := RDs_txt hn l h
    rw [tup_len, nd_tup, Nat.mul_add, Nat.mul_one]
    omega
theorem RDs_txt {n : Nat} (hn : 800 ≤ n) : ∀ (l : List D), RDs n l → (sepL (txts l)).length ≤ (2 * n + 4) * nds l
  | [], _ => by rw [txts] <;> exact Nat.zero_le _
  | d :: l, h => by
    unfold RDs at h
    have h1 := RD_txt hn d h.1
    have h2 := RDs_txt hn l h.2
    rw [txts, sepL_cons, List.length_append, nds, Nat.mul_add]
    split
    · rw [List.length_nil]
      omega
    · rw [List.length_cons]
      omega
end
/-- what readL gives for a text of at most 2900 signs is small -/
theorem read_small {L : List Nat} {d : D} (hL : L.length ≤ 2900) (h : readL L = .ok d []) : DB d ∧ nd d ≤ 2000 ∧ (txt d).length ≤ 9000000 := by
  have hn : nestL 24 L = .ok d [] := by
    unfold readL at h
    cases q : nestL 24 L with
    | bad x => rw [q] at h; cases h
    | ok d2 l2 =>
      rw [q] at h
      cases l2 with
      | nil =>
        injection h with h1 _
        rw [h1]
      | cons c r => cases h
  obtain ⟨_, _, w3, w4⟩ := nestL_wi (n := 2900) hL hn
  have h0 : ([] : List Nat).length = 0 := rfl
  have hnd : nd d ≤ 1450 := by omega
  have ht := RD_txt (by decide) d w4
  refine ⟨RD_DB (by decide) d w4, by omega, ?_⟩
  have h2 : (2 * 2900 + 4) * nd d ≤ 5804 * 1450 := Nat.mul_le_mul_left 5804 hnd
  omega
end DD
namespace K80
open PySem PySem.Spec PyProof.Rows L2 DD
structure Ix (w : World) (K : PySem.W.Frag) (mg : Str → Option Value) (base : Heap) (k : Nat) (g : Addr) (ps : List Str) (sp : Sp) : Prop where
  ex : ∃ fd, FnOk PG w K mg base (L2.CX PG w) k g fd ps sp ∧ Binds K fd ps [] ∧ PySem.W.keepIn K (.ref g) = true
theorem lk_place (n : Int) : ([("place", V.int n)] : List (Str × V)).lookup ("place" : Str) = some (.int n) := List.lookup_cons_self
section
variable {w : World} {K : PySem.W.Frag} {mg : Str → Option Value} {base : Heap}
def spAgrees : Sp := fun vs H Q _ => ∃ L : List Nat, vs = [.str (S L)] ∧ L.all okA = true ∧ L.length ≤ 2900 ∧ ∀ H', Same H H' → Q (.bl true) H'
theorem scAg : FnScope ["text", "good", "told", "back", "error"] ["text"] (defScope sAgrees) := ⟨rfl, rfl, rfl, by decide +kernel, rfl, by decide +kernel, by decide +kernel⟩
/-- the suite's reading -/
def suA (K : PySem.W.Frag) : Addr → Value → Option Addr → TS := fun a cls d =>
  tSeq (tIfS (tOr (tB (tVar 1)) (tOr (tNot (tB (tCB (Q7.rIsX K cls d a) (tCons (tVar 4) (tCons (tC (.ref (CB K))) tNil))))) (tOr (tB (tCB (Q7.rIsX K cls d a) (tCons (tVar 4) (tCons (tC (.ref (CT K))) tNil))))
      (tB (tCB (rIsi K) (tCons (tXf a cls d (CB K) "place" (tVar 4)) (tCons (tC (.ty "bool")) tNil))))))) (tRet (tC (.bl false))) tNext)
    (tRet (tOp rEq (tXf a cls d (CB K) "place" (tVar 4)) (tVar 2)))
theorem ok_agrees {fd : FuncData} (F : FnG K "_law_agrees" sAgrees fd) (IL : Id w K mg base 2 (He.ga K "_law_read") ["text"] spLRead) (IR : Ix w K mg base 32 (He.ga K "read_data") ["text"] (spRead K)) (IT : Id w K mg base 2 (He.ga K "_law_data_text") ["value"] spDataT) (T : Txt PG w K mg) :
    FnOk PG w K mg base CX0 33 (He.ga K "_law_agrees") fd ["text"] spAgrees := by
  obtain ⟨fdL, GL, bL, kL⟩ := IL.ex
  obtain ⟨fdR, GR, bR, kR⟩ := IR.ex
  obtain ⟨fdT, GT, bT, kT⟩ := IT.ex
  have nd_ := scAg.nd
  refine F.ok scAg (fun vs H Q E h => ?_) (fun cdv A outer s H vs Q E hr h => ?_)
  · obtain ⟨L, rfl, _⟩ := h
    rfl
  · have hr2 : Room 2 _ := hr.mono (by decide)
    refine ⟨_, PSs.nox (
      pss_cons (ps_asg (pe_call GL hr2 rfl T.g_l_read kL bL .nil pass0 (pa_cons (pv 0) pa_nil)) (pg_tup rfl (pgs_cons (pg_name (i := 1) nd_ rfl (Or.inl rfl)) (pgs_cons (pg_name (i := 2) nd_ rfl (Or.inl rfl)) pgs_nil)))) <|
      pss_cons (ps_try_as (i := 4) (tb := fun W => tAsg (tCallS (spRead K) (WE W) (tCons (tVar 0) tNil)) (gName 3))
        (ts := suA K)
        (Wout := fun _ _ _ _ => False) rfl rfl nd_ rfl rfl ⟨rfl, by decide, .inl T.g_HoldError⟩ takes0
        (fun W pn xe tk _ => pss_one (ps_set (i := 3) nd_ rfl (Or.inl rfl) (by exact (pe_callS GR hr rfl T.g_read_data kR bR (fun σ => passAt tk σ) (by exact (pa_cons (pv 0) pa_nil))))))
        (fun a oe cls d pn hz hf => by
          exact pss_cons (ps_if (PW.pt (pw_or (pt_val (pv 1)) (pw_or (pt_not (pt_val (pe_callB (Q7.call_isX hz hf) rfl T.n_isinstance boot_isinstance (pa_cons (pv 4) (pa_cons (pe_glob (v := .ref (CB K)) rfl T.g_BadData rfl) pa_nil)))))
              (pw_or (pt_val (pe_callB (Q7.call_isX hz hf) rfl T.n_isinstance boot_isinstance (pa_cons (pv 4) (pa_cons (pe_glob (v := .ref (CT K)) rfl T.g_TooMany rfl) pa_nil))))
              (pw_or1 (pt_val (pe_callB call_isi rfl T.n_isinstance boot_isinstance (pa_cons (pe_xf T.isB.xf T.a_BadData_place hz hf (pv 4)) (pa_cons (pe_bltn (v := .ty "bool") (u := .type "bool") rfl T.n_bool (by decide +kernel) rfl) pa_nil)))))))))
            (pss_one (ps_ret pe_bl)) pss_nil)
            (pss_one (ps_ret (pe_cmpR op_eq (pe_xf T.isB.xf T.a_BadData_place hz hf (pv 4)) (pv 2) (nomark _)))))) <|
      pss_one (ps_ret (pe_and (pv 1) (pe_one (pe_cmpR op_eq (pe_call GT hr2 rfl T.g_l_data_text kT bT .nil pass0 (pa_cons (pv 3) pa_nil)) (pe_call GT hr2 rfl T.g_l_data_text kT bT .nil pass0 (pa_cons (pv 2) pa_nil)) (nomark _)))))), ?_⟩
    obtain ⟨L, rfl, hA, hL, k⟩ := h
    have hrun : runM L initM = readL L := run_read hA
    have hmx : MX = 16000000 := rfl
    refine ⟨_, rfl, L, rfl, hA, by omega, fun d hd t v H1 s1 hv ht => ?_, fun x hx t H1 s1 ht => ?_⟩
    · rw [hrun] at hd
      obtain ⟨b1, b2, b3⟩ := read_small hL hd
      refine ⟨t, _, rfl, SqT.of ht, rfl, _, _, rfl, _, _, rfl, rfl, ?_⟩
      refine ⟨_, rfl, L, rfl, by omega, fun d2 hd2 v2 H2 s2 hv2 => ?_, fun x hx => (by rw [hd] at hx; cases hx)⟩
      rw [hd] at hd2
      injection hd2 with hd2 _
      subst hd2
      refine ⟨_, rfl, true, rfl, iteT ⟨_, rfl, d, v2, rfl, hv2, b1, b2, b3, fun H3 s3 => ⟨_, rfl, d, v, rfl, DAt.mono (fun a xs e => s3 _ _ (s2 _ _ e)) hv, b1, b2, b3, fun H4 s4 => ⟨rfl, ?_⟩⟩⟩⟩
      rw [decide_eq_true rfl]
      exact k H4 (SameT s1 (SameT s2 (SameT s3 s4)))
    · rw [hrun] at hx
      refine ⟨t, _, rfl, SqT.of ht, rfl, _, _, rfl, _, _, rfl, rfl, ?_⟩
      refine ⟨_, rfl, L, rfl, by omega, fun d hd => (by rw [hx] at hd; cases hd), fun x2 hx2 dd H2 s2 hdd => ?_⟩
      rw [hx] at hx2
      injection hx2 with hx2
      subst hx2
      refine ⟨true, T.x_BadData, fun _ a na => ?_, fun q => Bool.noConfusion q⟩
      refine ⟨_, rfl, false, rfl, iteF ⟨_, rfl, CB K, CB K, true, dd, _, rfl, rfl, T.isB, rfl, hdd, T.kBB, true, rfl, ?_⟩⟩
      show if (!true) = true then _ else _
      refine iteF ⟨_, rfl, CB K, CT K, false, dd, _, rfl, rfl, T.isB, rfl, hdd, T.kBT, false, rfl, ?_⟩
      refine iteF ⟨_, rfl, rfl, rfl, dd, _, _, rfl, hdd, lk_place _, _, _, _, _, false, rfl, .ty _, .base (.int _), kit_ty (by decide +kernel), false, rfl, ?_⟩
      refine iteF ⟨_, rfl, rfl, rfl, dd, _, _, rfl, hdd, lk_place _, _, rfl, rfl, ?_⟩
      rw [decide_eq_true rfl]
      exact k H2 (SameT s1 s2)
end
end K80

set_option Elab.async false
set_option linter.all false
set_option maxRecDepth 100000
set_option maxHeartbeats 4000000
/-! Y9 (k80): small data; letters, atom. -/
namespace DD
open PySem L2
mutual
def Ty : D → Prop
  | .non => True
  | .bl _ => True
  | .int i => i.natAbs < 10 ^ 41
  | .str s => s.length ≤ 5 ∧ s.all okC = true
  | .tup l => Tys l
def Tys : List D → Prop
  | [] => True
  | d :: r => Ty d ∧ Tys r
end
theorem Tys_append : ∀ {l r : List D}, Tys (l ++ r) ↔ Tys l ∧ Tys r
  | [], r => by
    constructor
    · intro h
      exact ⟨by unfold Tys; trivial, h⟩
    · intro h
      exact h.2
  | d :: l, r => by
    show Tys (d :: (l ++ r)) ↔ Tys (d :: l) ∧ Tys r
    rw [Tys, Tys, Tys_append (l := l) (r := r), and_assoc]
theorem Ty_tup (l : List D) : Ty (.tup l) ↔ Tys l := by rw [Ty]
theorem num_okA (i : Int) : (numL i).all okA = true := by
  have hd : ∀ n : Nat, (TL.numL n).all okA = true := fun n => by
    rw [List.all_eq_true]
    intro c hc
    have := TL.numL_digits n c hc
    exact okA_iff.mpr (.inr (by omega))
  cases i with
  | ofNat n =>
    have e : numL (Int.ofNat n) = TL.numL n := numL_pos n
    rw [e]
    exact hd n
  | negSucc n =>
    rw [numL_neg, List.all_cons, hd] <;> rfl
theorem esc_okA : ∀ s : List Nat, s.all okC = true → (esc s).all okA = true
  | [], _ => rfl
  | c :: s, h => by
    rw [List.all_cons, Bool.and_eq_true] at h
    have e0 : esc (c :: s) = esc1 c ++ esc s := by unfold esc; rw [List.flatMap_cons]
    rw [e0, List.all_append, esc_okA s h.2, Bool.and_true]
    have hc : okA c = true := h.1
    unfold esc1
    split
    · rfl
    · split
      · rw [List.all_cons, List.all_cons, hc] <;> rfl
      · rw [List.all_cons, hc] <;> rfl
mutual
theorem Ty_okA : ∀ (d : D), Ty d → (txt d).all okA = true
  | .non, _ => by rw [txt] <;> decide
  | .bl true, _ => by rw [txt] <;> decide
  | .bl false, _ => by rw [txt] <;> decide
  | .int i, _ => by rw [txt]; exact num_okA i
  | .str s, h => by
    unfold Ty at h
    rw [txt, List.all_cons, List.all_append, esc_okA s h.2] <;> rfl
  | .tup l, h => by
    rw [txt, List.all_cons, List.all_append, Tys_okA l ((Ty_tup l).mp h)] <;> rfl
theorem Tys_okA : ∀ (l : List D), Tys l → (sepL (txts l)).all okA = true
  | [], _ => by rw [txts] <;> rfl
  | d :: l, h => by
    unfold Tys at h
    rw [txts, sepL_cons, List.all_append, Ty_okA d h.1, Bool.true_and]
    split
    · rfl
    · rw [List.all_cons, Tys_okA l h.2] <;> rfl
end
mutual
theorem Ty_len : ∀ (d : D), Ty d → (txt d).length + 1 ≤ 44 * nd d
  | .non, _ => by rw [txt, nd_non] <;> decide
  | .bl true, _ => by rw [txt, nd_bl] <;> decide
  | .bl false, _ => by rw [txt, nd_bl] <;> decide
  | .int i, h => by
    unfold Ty at h
    rw [txt, nd_int]
    have := numL_len (by decide) h
    omega
  | .str s, h => by
    unfold Ty at h
    rw [txt, nd_str, List.length_cons, List.length_append, List.length_singleton]
    have := K80.esc_len s
    omega
  | .tup l, h => by
    have := Tys_len l ((Ty_tup l).mp h)
    rw [tup_len, nd_tup]
    omega
theorem Tys_len : ∀ (l : List D), Tys l → (sepL (txts l)).length ≤ 44 * nds l
  | [], _ => by rw [txts] <;> exact Nat.zero_le _
  | d :: l, h => by
    unfold Tys at h
    have h1 := Ty_len d h.1
    have h2 := Tys_len l h.2
    rw [txts, sepL_cons, List.length_append, nds]
    split
    · rw [List.length_nil]
      omega
    · rw [List.length_cons]
      omega
end
mutual
theorem Ty_DB : ∀ (d : D), Ty d → DB d
  | .non, _ => by unfold DB; trivial
  | .bl _, _ => by unfold DB; trivial
  | .int i, h => by
    unfold Ty at h
    unfold DB
    exact Nat.lt_of_lt_of_le h (Nat.pow_le_pow_right (by decide) (by decide))
  | .str s, h => by
    unfold Ty at h
    unfold DB
    omega
  | .tup l, h => by
    unfold DB
    exact Tys_DBs l ((Ty_tup l).mp h)
theorem Tys_DBs : ∀ (l : List D), Tys l → DBs l
  | [], _ => by unfold DBs; trivial
  | d :: l, h => by
    unfold Tys at h
    unfold DBs
    exact ⟨Ty_DB d h.1, Tys_DBs l h.2⟩
end
end DD

set_option Elab.async false
set_option linter.all false
set_option maxRecDepth 100000
set_option maxHeartbeats 4000000
/-! Y10 (k80): letters, atom. -/
namespace K80
open PySem PySem.Spec PyProof.Rows L2 DD
section
variable {w : World} {K : PySem.W.Frag} {mg : Str → Option Value} {base : Heap}
def rowL : List Str := ["\"", "\\", "\n", "n", " ",
  "(", ")", "a", "~", "0",
  "'", "{", ".", "Z"]
theorem rowL_one : ∀ x ∈ rowL, ∃ c, okC c = true ∧ x = S [c] := by
  intro x hx
  simp only [rowL, List.mem_cons, List.not_mem_nil, or_false] at hx
  rcases hx with rfl | rfl | rfl | rfl | rfl | rfl | rfl | rfl | rfl | rfl | rfl | rfl | rfl | rfl
  · exact ⟨34, rfl, by decide +kernel⟩
  · exact ⟨92, rfl, by decide +kernel⟩
  · exact ⟨10, rfl, by decide +kernel⟩
  · exact ⟨110, rfl, by decide +kernel⟩
  · exact ⟨32, rfl, by decide +kernel⟩
  · exact ⟨40, rfl, by decide +kernel⟩
  · exact ⟨41, rfl, by decide +kernel⟩
  · exact ⟨97, rfl, by decide +kernel⟩
  · exact ⟨126, rfl, by decide +kernel⟩
  · exact ⟨48, rfl, by decide +kernel⟩
  · exact ⟨39, rfl, by decide +kernel⟩
  · exact ⟨123, rfl, by decide +kernel⟩
  · exact ⟨46, rfl, by decide +kernel⟩
  · exact ⟨90, rfl, by decide +kernel⟩
def spLetters : Sp := fun vs H Q _ => ∃ j : Addr, vs = [.ref j] ∧ JarAt H j ∧ ∀ s : List Nat, s.length ≤ 5 → s.all okC = true → ∀ H', KeepB H H' j → JarAt H' j → Q (.str (S s)) H'
theorem scLt : FnScope ["jar", "found", "step"] ["jar"] (defScope sLetters) := ⟨rfl, rfl, rfl, by decide +kernel, rfl, by decide +kernel, by decide +kernel⟩
theorem ok_letters {fd : FuncData} (F : FnG K "_law_letters" sLetters fd) (ID : Id w K mg base 2 (He.ga K "_law_draw") ["jar", "many"] spDraw) (IP : Id w K mg base 3 (He.ga K "_law_pick") ["jar", "row"] (spPick K)) (T : Txt PG w K mg) : FnOk PG w K mg base CX0 4 (He.ga K "_law_letters") fd ["jar"] spLetters := by
  obtain ⟨fdD, GD, bD, kD⟩ := ID.ex
  obtain ⟨fdP, GP, bP, kP⟩ := IP.ex
  have nd := scLt.nd
  refine F.ok scLt (fun vs H Q E h => ?_) (fun cdv A outer s H vs Q E hr h => ⟨_, PSs.nox (
    pss_cons (ps_set (i := 1) nd rfl (Or.inl rfl) (pe_lst pa_nil)) <|
    pss_cons (ps_for PassesOwn.never rfl (pi_range1 rfl T.n_range (pa_cons (pe_call GD (hr.mono (by decide)) rfl T.g_l_draw kD bD .nil pass0 (pa_cons (pv 0) (pa_cons pe_int pa_nil))) pa_nil)) (pg_name (i := 2) nd rfl (Or.inl rfl))
      (pss_one (ps_expr (pe_bm PySem.F.plainAttrs_list PySem.F.slot_list_append PySem.F.type_list_append mt_append (pv 1) (pa_cons (pe_call GP hr rfl T.g_l_pick kP bP .nil pass0 (pa_cons (pv 0) (pa_cons (pe_lst
        (pa_cons pe_str (pa_cons pe_str (pa_cons pe_str (pa_cons pe_str (pa_cons pe_str (pa_cons pe_str (pa_cons pe_str (pa_cons pe_str (pa_cons pe_str (pa_cons pe_str (pa_cons pe_str (pa_cons pe_str (pa_cons pe_str (pa_cons pe_str pa_nil))))))))))))))) pa_nil))) pa_nil))))) <|
    pss_one (ps_ret (pe_join pe_str (pv 1)))), ?_⟩)
  · obtain ⟨j, rfl, _⟩ := h
    rfl
  · obtain ⟨j, rfl, hj, k⟩ := h
    have sz : (1000 : Nat) < sizeLine := by rw [sizeLine_eq]; decide
    refine ⟨Nat.zero_le _, fun p np => ?_⟩
    have njp := hj.ne np
    refine ⟨_, rfl, j, 6, rfl, hj.upd np, by decide, by decide, fun n hn H1 kb1 hj1 => ⟨_, rfl, by omega, by omega, ?_⟩⟩
    have kb01 : KeepB H H1 j := fun b o e ne => kb1 b o (by rw [upd_ne (ne_of_none e np)]; exact e) ne
    have hp1 : H1 p = some (.lst []) := kb1 p _ upd_same (Ne.symm njp)
    refine for_range (n := n) (fun i σ H' => KeepB H H' j ∧ JarAt H' j ∧ ∃ (acc : List Nat) (x : Option V), σ = [some (.ref j), some (.ref p), x] ∧ H' p = some (.lst (acc.map sgV)) ∧ acc.length = i ∧ acc.all okC = true) ⟨kb01, hj1, [], _, rfl, hp1, rfl, rfl⟩ ?_ ?_
    · rintro i _ H2 hi ⟨kb2, hj2, acc, x, rfl, hp2, hl, hok⟩
      refine ⟨_, rfl, .inl ⟨rfl, _, SqL.of hp2⟩, _, rfl, by show 14 ≤ sizeLine; omega, fun q nq => ?_⟩
      have nqp : p ≠ q := ne_of_none hp2 nq
      have nq0 : H q = none := kb2.freeJ hj2 nq
      refine ⟨j, q, rowL.map V.str, rfl, hj2.upd nq, upd_same, hj2.ne nq, List.cons_ne_nil _ _, by show 14 < 1000; decide, fun x hx H4 kb4 hj4 => ?_⟩
      obtain ⟨z, hz, rfl⟩ := List.mem_map.mp hx
      obtain ⟨c, hc, rfl⟩ := rowL_one z hz
      have hp4 : H4 p = some (.lst (acc.map sgV)) := kb4 p _ (by rw [upd_ne nqp]; exact hp2) (Ne.symm njp)
      have kb3 : KeepB H H4 j := fun b o e ne => kb4 b o (by rw [upd_ne (ne_of_none e nq0)]; exact kb2 b o e ne) ne
      refine ⟨p, _, _, rfl, rfl, hp4, by rw [List.length_map]; omega, kb3.new np, ?_, acc ++ [c], _, rfl, ?_, ?_, ?_⟩
      · obtain ⟨x', n', r', q'⟩ := hj4
        exact ⟨x', n', r', by rw [upd_ne njp]; exact q'⟩
      · rw [upd_same, List.map_append] <;> rfl
      · rw [List.length_append, hl] <;> rfl
      · rw [List.all_append, hok] <;> simp [hc]
    · rintro _ H2 ⟨kb2, hj2, acc, x, rfl, hp2, hl, hok⟩
      refine ⟨⟨_, rfl⟩, _, rfl, _, p, acc.map (fun c => S [c]), rfl, rfl, .inl (SqL.of (by rw [hp2, List.map_map] <;> rfl)), ?_, ?_⟩
      · rw [sum_one, List.length_map]
        show acc.length + acc.length * 0 ≤ 16777216
        omega
      · rw [lit_e, join_sg]
        exact k acc (by omega) hok H2 kb2 hj2
end
end K80

set_option Elab.async false
set_option linter.all false
set_option maxRecDepth 100000
set_option maxHeartbeats 4000000
/-! Y11 (k80): atom. -/
namespace K80
open PySem PySem.Spec PyProof.Rows L2 DD
section
variable {w : World} {K : PySem.W.Frag} {mg : Str → Option Value} {base : Heap}
def spAtom : Sp := fun vs H Q _ => ∃ j : Addr, vs = [.ref j] ∧ JarAt H j ∧ ∀ d v H', isTup d = false → DD.Ty d → (∀ H2, DAt H2 d v) → KeepB H H' j → JarAt H' j → Q v H'
theorem scAo : FnScope ["jar", "way", "amount", "step"] ["jar"] (defScope sAtom) := ⟨rfl, rfl, rfl, by decide +kernel, rfl, by decide +kernel, by decide +kernel⟩
theorem Ty_int (i : Int) : DD.Ty (.int i) ↔ i.natAbs < 10 ^ 41 := by rw [DD.Ty]
theorem Ty_str (s : List Nat) : DD.Ty (.str s) ↔ (s.length ≤ 5 ∧ s.all okC = true) := by rw [DD.Ty]
theorem ok_atom' {fd : FuncData} (F : FnG K "_law_atom" sAtom fd) (ID : Id w K mg base 2 (He.ga K "_law_draw") ["jar", "many"] spDraw) (IP : Id w K mg base 3 (He.ga K "_law_pick") ["jar", "row"] (spPick K))
    (IL : Id w K mg base 4 (He.ga K "_law_letters") ["jar"] spLetters) (IB : Id w K mg base 3 (He.ga K "_law_between") ["jar", "low", "high"] spBetween) (T : Txt PG w K mg) :
    FnOk PG w K mg base CX0 5 (He.ga K "_law_atom") fd ["jar"] spAtom := by
  obtain ⟨fdD, GD, bD, kD⟩ := ID.ex
  obtain ⟨fdP, GP, bP, kP⟩ := IP.ex
  obtain ⟨fdL, GL, bL, kL⟩ := IL.ex
  obtain ⟨fdB, GB, bB, kB⟩ := IB.ex
  have nd := scAo.nd
  refine F.ok scAo (fun vs H Q E h => ?_) (fun cdv A outer s H vs Q E hr h => ⟨_, PSs.nox (
    pss_cons (ps_set (i := 1) nd rfl (Or.inl rfl) (pe_call GD (hr.mono (by decide)) rfl T.g_l_draw kD bD .nil pass0 (pa_cons (pv 0) (pa_cons pe_int pa_nil)))) <|
    pss_cons (ps_if (pt_cmpR op_lt (pv 1) pe_int (nomark _)) (pss_one (ps_ret (pe_call GP (hr.mono (by decide)) rfl T.g_l_pick kP bP .nil pass0 (pa_cons (pv 0) (pa_cons (pe_lst (pa_cons pe_non (pa_cons pe_bl (pa_cons pe_bl pa_nil)))) pa_nil))))) pss_nil) <|
    pss_cons (ps_if (pt_cmpR op_lt (pv 1) pe_int (nomark _)) (pss_one (ps_ret (pe_call GL hr rfl T.g_l_letters kL bL .nil pass0 (pa_cons (pv 0) pa_nil)))) pss_nil) <|
    pss_cons (ps_if (pt_cmpR op_lt (pv 1) pe_int (nomark _)) (pss_one (ps_ret (pe_call GB (hr.mono (by decide)) rfl T.g_l_between kB bB .nil pass0 (pa_cons (pv 0) (pa_cons (pe_un un_neg pe_int) (pa_cons pe_int pa_nil)))))) pss_nil) <|
    pss_cons (ps_set (i := 2) nd rfl (Or.inl rfl) pe_int) <|
    pss_cons (ps_for PassesOwn.never rfl (pi_range1 rfl T.n_range (pa_cons (pe_op op_add pe_int (pe_call GD (hr.mono (by decide)) rfl T.g_l_draw kD bD .nil pass0 (pa_cons (pv 0) (pa_cons pe_int pa_nil)))) pa_nil)) (pg_name (i := 3) nd rfl (Or.inl rfl))
      (pss_one (ps_set (i := 2) nd rfl (Or.inl rfl) (pe_op op_add (pe_op op_mul pe_int (pv 2)) (pe_call GD (hr.mono (by decide)) rfl T.g_l_draw kD bD .nil pass0 (pa_cons (pv 0) (pa_cons pe_int pa_nil))))))) <|
    pss_one (ps_ret (pe_ifExp (pt_cmpR op_eq (pe_call GD (hr.mono (by decide)) rfl T.g_l_draw kD bD .nil pass0 (pa_cons (pv 0) (pa_cons pe_int pa_nil))) pe_int (nomark _)) (pe_un un_neg (pv 2)) (pv 2)))), ?_⟩)
  · obtain ⟨j, rfl, _⟩ := h
    rfl
  · obtain ⟨j, rfl, hj, k⟩ := h
    have sz : (1000 : Nat) < sizeLine := by rw [sizeLine_eq]; decide
    refine ⟨_, rfl, j, 9, rfl, hj, by decide, by decide, fun i hi H1 kb1 hj1 => ?_⟩
    refine ⟨_, rfl, _, _, rfl, rfl, _, rfl, ?_⟩
    refine iteC (fun _ => ?_) (fun _ => ?_)
    · refine ⟨_, rfl, by show 3 ≤ sizeLine; omega, fun q nq => ?_⟩
      have nq0 : H q = none := kb1.freeJ hj1 nq
      refine ⟨j, q, _, rfl, hj1.upd nq, upd_same, hj1.ne nq, List.cons_ne_nil _ _, by show 3 < 1000; decide, fun x hx H2 kb2 hj2 => ?_⟩
      have kb : KeepB H H2 j := fun b o e ne => kb2 b o (by rw [upd_ne (ne_of_none e nq0)]; exact kb1 b o e ne) ne
      simp only [List.mem_cons, List.not_mem_nil, or_false] at hx
      rcases hx with rfl | rfl | rfl
      · exact k .non _ H2 rfl (by unfold DD.Ty; trivial) (fun _ => by unfold DAt; rfl) kb hj2
      · exact k (.bl true) _ H2 rfl (by unfold DD.Ty; trivial) (fun _ => by unfold DAt; rfl) kb hj2
      · exact k (.bl false) _ H2 rfl (by unfold DD.Ty; trivial) (fun _ => by unfold DAt; rfl) kb hj2
    · refine ⟨_, rfl, _, _, rfl, rfl, _, rfl, ?_⟩
      refine iteC (fun _ => ?_) (fun _ => ?_)
      · refine ⟨_, rfl, j, rfl, hj1, fun s hs hok H2 kb2 hj2 => ?_⟩
        exact k (.str s) _ H2 rfl ((Ty_str s).mpr ⟨hs, hok⟩) (fun _ => by unfold DAt; rfl) (kb1.trans kb2) hj2
      · refine ⟨_, rfl, _, _, rfl, rfl, _, rfl, ?_⟩
        refine iteC (fun _ => ?_) (fun _ => ?_)
        · refine ⟨_, rfl, _, rfl, j, _, _, rfl, hj1, by decide, by decide, fun v lo hi H2 kb2 hj2 => ?_⟩
          exact k (.int v) _ H2 rfl ((Ty_int v).mpr (Nat.lt_of_lt_of_le (show v.natAbs < 10 ^ 2 by omega) (Nat.pow_le_pow_right (by decide) (by decide)))) (fun _ => by unfold DAt; rfl) (kb1.trans kb2) hj2
        · refine ⟨_, rfl, j, 40, rfl, hj1, by decide, by decide, fun n hn H2 kb2 hj2 => ⟨_, _, rfl, rfl, _, rfl, by omega, by omega, ?_⟩⟩
          refine for_range (n := 1 + n) (fun t σ H' => KeepB H2 H' j ∧ JarAt H' j ∧ ∃ (am : Nat) (x : Option V), σ = [some (.ref j), some (.int (i : Int)), some (.int (am : Int)), x] ∧ am < 10 ^ t) ⟨KeepB.refl, hj2, 0, _, rfl, by decide⟩ ?_ ?_
          · rintro t _ H3 ht ⟨kb3, hj3, am, x, rfl, ha⟩
            refine ⟨_, rfl, _, _, rfl, rfl, .inl ⟨by decide, by decide⟩, _, rfl, j, 10, rfl, hj3, by decide, by decide, fun e he H4 kb4 hj4 => ⟨_, _, rfl, rfl, kb3.trans kb4, hj4, 10 * am + e, some (.int (0 + (t : Int))), ?_, ?_⟩⟩
            · exact congrArg (fun z => [some (V.ref j), some (V.int (i : Int)), some (V.int z), some (V.int (0 + (t : Int)))]) (show (10 : Int) * (am : Int) + (e : Int) = ((10 * am + e : Nat) : Int) by omega)
            · rw [Nat.pow_succ]
              omega
          · rintro _ H3 ⟨kb3, hj3, am, x, rfl, ha⟩
            have ham : am < 10 ^ 41 := Nat.lt_of_lt_of_le ha (Nat.pow_le_pow_right (by decide) (by omega))
            refine ⟨_, rfl, j, 2, rfl, hj3, by decide, by decide, fun e he H4 kb4 hj4 => ⟨rfl, _, rfl, ?_⟩⟩
            have kb : KeepB H H4 j := ((kb1.trans kb2).trans kb3).trans kb4
            refine iteC (fun _ => ⟨_, rfl, _, rfl, ?_⟩) (fun _ => ⟨_, rfl, ?_⟩)
            · exact k (.int (-(am : Int))) _ H4 rfl ((Ty_int _).mpr (by rw [Int.natAbs_neg, Int.natAbs_natCast]; exact ham)) (fun _ => by unfold DAt; rfl) kb hj4
            · exact k (.int (am : Int)) _ H4 rfl ((Ty_int _).mpr (by rw [Int.natAbs_natCast]; exact ham)) (fun _ => by unfold DAt; rfl) kb hj4
end
end K80

set_option Elab.async false
set_option linter.all false
set_option maxRecDepth 100000
set_option maxHeartbeats 4000000
/-! Y12 (k80): grown (turned from W14). -/
namespace K80
open PySem PySem.Spec PyProof.Rows L2 DD
section
variable {w : World} {K : PySem.W.Frag} {mg : Str → Option Value} {base : Heap}
def spGrown : Sp := fun vs H Q _ => ∃ j : Addr, vs = [.ref j] ∧ JarAt H j ∧ ∀ d v a H', DD.Ty d → DAt H' d v → dp d ≤ 16 → nd d ≤ 14 → H' a = some (.tup [v, .int ((dp d : Nat) : Int)]) → KeepB H H' j → JarAt H' j → Q (.ref a) H'
theorem scGr : FnScope ["jar", "pool", "step", "many", "parts", "deep", "part"] ["jar"] (defScope sGrown) := ⟨rfl, rfl, rfl, by decide +kernel, rfl, by decide +kernel, by decide +kernel⟩
theorem ok_grown {fd : FuncData} (F : FnG K "_law_grown" sGrown fd) (ID : Id w K mg base 2 (He.ga K "_law_draw") ["jar", "many"] spDraw) (IA : Id w K mg base 5 (He.ga K "_law_atom") ["jar"] spAtom) (T : Txt PG w K mg) :
    FnOk PG w K mg base CX0 6 (He.ga K "_law_grown") fd ["jar"] spGrown := by
  obtain ⟨fdD, GD, bD, kD⟩ := ID.ex
  obtain ⟨fdA, GA, bA, kA⟩ := IA.ex
  have nd_ := scGr.nd
  refine F.ok scGr (fun vs H Q E h => ?_) (fun cdv A outer s H vs Q E hr h => ⟨_, PSs.nox (
    pss_cons (ps_set (i := 1) nd_ rfl (Or.inl rfl) (pe_lst pa_nil)) <|
    C8.pss_cut (ps_for PassesOwn.never rfl (pi_range1 rfl T.n_range (pa_cons (pe_op op_add pe_int (pe_call GD (hr.mono (by decide)) rfl T.g_l_draw kD bD .nil pass0 (pa_cons (pv 0) (pa_cons pe_int pa_nil)))) pa_nil)) (pg_name (i := 2) nd_ rfl (Or.inl rfl)) <|
      pss_one <| ps_if (pt_cmpR op_lt (pe_call GD (hr.mono (by decide)) rfl T.g_l_draw kD bD .nil pass0 (pa_cons (pv 0) (pa_cons pe_int pa_nil))) pe_int (nomark _))
        (pss_one (ps_expr (pe_bm PySem.F.plainAttrs_list PySem.F.slot_list_append PySem.F.type_list_append mt_append (pv 1) (pa_cons (pe_tup (pa_cons (pe_call GA hr rfl T.g_l_atom kA bA .nil pass0 (pa_cons (pv 0) pa_nil)) (pa_cons pe_int pa_nil))) pa_nil)))) <|
       pss_cons (ps_set (i := 3) nd_ rfl (Or.inl rfl) (pe_callB (call_min2 rfl) rfl T.n_min boot_min (pa_cons (pe_call GD (hr.mono (by decide)) rfl T.g_l_draw kD bD .nil pass0 (pa_cons (pv 0) (pa_cons pe_int pa_nil))) (pa_cons (pe_callB call_len_seq (by rfl) T.n_len boot_len (pa_cons (pv 1) pa_nil)) pa_nil)))) <|
       pss_cons (ps_set (i := 4) nd_ rfl (Or.inl rfl) (pe_slice sl_list (pv 1) (po_some (pe_op op_sub (pe_callB call_len_seq (by rfl) T.n_len boot_len (pa_cons (pv 1) pa_nil)) (pv 3))) po_none)) <|
       pss_cons (ps_set (i := 5) nd_ rfl (Or.inl rfl) (pe_callB (cr_max rfl) rfl T.n_max boot_max (pa_cons (pe_op op_cat (pe_lst (pa_cons pe_int pa_nil))
          (pe_lc (own := [("part", 6)]) (g := gName 6) (tt := tYes) (te := tOp (rIxT K) (tVar 6) (tC (.int 1))) rfl nd_ (pi_list (pv 4)) (blkOk_by (N := ["jar", "pool", "step", "many", "parts", "deep", "part"]) (sc := defScope sGrown) (by decide +kernel)) (fun _ _ _ _ _ => pg_name (i := 6) nd_ rfl (Or.inl rfl)) (fun _ _ _ _ _ => pts_nil) (fun _ _ _ _ _ => pe_ix ix_tup (pv 6) pe_int (fun _ _ => rfl)))) pa_nil))) <|
       pss_one (ps_set (i := 1) nd_ rfl (Or.inl rfl) (pe_op op_cat (pe_slice sl_list (pv 1) po_none (po_some (pe_op op_sub (pe_callB call_len_seq (by rfl) T.n_len boot_len (pa_cons (pv 1) pa_nil)) (pv 3))))
          (pe_lst (pa_cons (pe_tup (pa_cons (pe_callTy call_tuple_of rfl T.n_tuple (by decide +kernel) (pa_cons
            (pe_lc (own := [("part", 6)]) (g := gName 6) (tt := tYes) (te := tOp (rIxT K) (tVar 6) (tC (.int 0))) rfl nd_ (pi_list (pv 4)) (blkOk_by (N := ["jar", "pool", "step", "many", "parts", "deep", "part"]) (sc := defScope sGrown) (by decide +kernel)) (fun _ _ _ _ _ => pg_name (i := 6) nd_ rfl (Or.inl rfl)) (fun _ _ _ _ _ => pts_nil) (fun _ _ _ _ _ => pe_ix ix_tup (pv 6) pe_int (fun _ _ => rfl))) pa_nil))
            (pa_cons (pe_op op_add (pv 5) pe_int) pa_nil))) pa_nil))))) <|
    pss_cons (ps_if (pt_cmpR op_eq (pe_callB call_len_seq (by rfl) T.n_len boot_len (pa_cons (pv 1) pa_nil)) pe_int (nomark _)) (pss_one (ps_ret (pe_ix ix_list (pv 1) pe_int (fun _ _ => rfl)))) pss_nil) <|
    pss_one (ps_ret (pe_tup (pa_cons (pe_callTy call_tuple_of rfl T.n_tuple (by decide +kernel) (pa_cons
            (pe_lc (own := [("part", 6)]) (g := gName 6) (tt := tYes) (te := tOp (rIxT K) (tVar 6) (tC (.int 0))) rfl nd_ (pi_list (pv 1)) (blkOk_by (N := ["jar", "pool", "step", "many", "parts", "deep", "part"]) (sc := defScope sGrown) (by decide +kernel)) (fun _ _ _ _ _ => pg_name (i := 6) nd_ rfl (Or.inl rfl)) (fun _ _ _ _ _ => pts_nil) (fun _ _ _ _ _ => pe_ix ix_tup (pv 6) pe_int (fun _ _ => rfl))) pa_nil))
      (pa_cons (pe_op op_add pe_int (pe_callB (cr_max rfl) rfl T.n_max boot_max (pa_cons
          (pe_lc (own := [("part", 6)]) (g := gName 6) (tt := tYes) (te := tOp (rIxT K) (tVar 6) (tC (.int 1))) rfl nd_ (pi_list (pv 1)) (blkOk_by (N := ["jar", "pool", "step", "many", "parts", "deep", "part"]) (sc := defScope sGrown) (by decide +kernel)) (fun _ _ _ _ _ => pg_name (i := 6) nd_ rfl (Or.inl rfl)) (fun _ _ _ _ _ => pts_nil) (fun _ _ _ _ _ => pe_ix ix_tup (pv 6) pe_int (fun _ _ => rfl))) pa_nil))) pa_nil))))), ?_⟩)
  · obtain ⟨j, rfl, _⟩ := h
    rfl
  · obtain ⟨j, rfl, hj, k⟩ := h
    have sz : (1000 : Nat) < sizeLine := by rw [sizeLine_eq]; decide
    refine ⟨Nat.zero_le _, fun p np => ?_⟩
    have njp := hj.ne np
    refine ⟨fun σ H' => ∃ (p : Addr) (ds : List D) (ts : List V) (x3 x4 x5 x6 : Option V), σ = [some (.ref j), some (.ref p), x3, x4, x5, x6, none] ∧ KeepB H H' j ∧ JarAt H' j ∧ H' p = some (.lst ts) ∧ H p = none ∧ PAts H' ds ts ∧ DD.Tys ds ∧ ds ≠ [] ∧ nds ds ≤ 13 ∧ dps ds ≤ 15, ?_, ?_⟩
    · refine ⟨_, rfl, j, 12, rfl, hj.upd np, by decide, by decide, fun n hn H1 kb1 hj1 => ⟨_, _, rfl, rfl, _, rfl, by omega, by omega, ?_⟩⟩
      refine for_range (n := 2 + n) (fun i σ H' => ∃ (p : Addr) (ds : List D) (ts : List V) (x3 x4 x5 x6 : Option V), σ = [some (.ref j), some (.ref p), x3, x4, x5, x6, none] ∧ KeepB H H' j ∧ JarAt H' j ∧ H' p = some (.lst ts) ∧ H p = none ∧ PAts H' ds ts ∧ DD.Tys ds ∧ (i ≠ 0 → ds ≠ []) ∧ nds ds ≤ i ∧ dps ds ≤ i) ?_ ?_ ?_
      · refine ⟨p, [], [], _, _, _, _, rfl, fun b o e ne => kb1 b o (SameN np b o e) ne, hj1, kb1 p _ upd_same (Ne.symm njp), np, PAts.nil, by unfold DD.Tys; trivial, fun z => absurd rfl z, by rw [nds]; omega, by rw [dps]; omega⟩
      · rintro i _ H2 hi ⟨p, ds, ts, x3, x4, x5, x6, rfl, kb2, hj2, hp2, np, hP, hG, hne, hn1, hd1⟩
        have njp : j ≠ p := by
          rintro rfl
          obtain ⟨_, _, _, q⟩ := hj
          rw [np] at q
          cases q
        have hlen : ds.length ≤ nds ds := by
          clear hP hG hne hn1 hd1
          induction ds with
          | nil => exact Nat.zero_le _
          | cons d ds ih => rw [nds, List.length_cons]; have := nd_pos d; omega
        have htl := hP.1
        refine ⟨_, rfl, j, 5, rfl, hj2, by decide, by decide, fun n2 hn2 H3 kb3 hj3 => ⟨_, _, rfl, rfl, _, rfl, ?_⟩⟩
        have hp3 := kb3 p _ hp2 (Ne.symm njp)
        have tj : ∀ {A B : Hp}, JarAt A j → KeepB A B j → ∀ a xs, A a = some (.tup xs) → B a = some (.tup xs) := fun {A B} ja kb a xs e => kb a _ e fun z => by
          obtain ⟨_, _, _, q⟩ := ja
          rw [z, q] at e
          cases e
        have hP3 := hP.mono (tj hj2 kb3)
        refine iteC (fun _ => ?_) (fun _ => ?_)
        · refine ⟨_, rfl, .inl ⟨rfl, _, SqL.of hp3⟩, _, rfl, j, rfl, hj3, fun d v H4 hf hg hd kb4 hj4 => ?_⟩
          refine ⟨by show 2 ≤ sizeLine; omega, fun q nq => ?_⟩
          have hp4 := kb4 p _ hp3 (Ne.symm njp)
          have nqp : p ≠ q := ne_of_none hp4 nq
          have hp5 := SameN (o := .tup [v, .int 0]) nq p _ hp4
          have kb04 : KeepB H H4 j := (kb2.trans kb3).trans kb4
          have d0 : dp d = 0 := dp_flat hf
          have n1 : nd d = 1 := nd_flat hf
          have s1 : nds [d] = 1 := by rw [nds, nds, n1]
          have s2 : dps [d] = 0 := by rw [dps, dps, d0] <;> rfl
          refine ⟨p, ts, _, rfl, rfl, hp5, by omega, p, ds ++ [d], ts ++ [.ref q], _, _, _, _, rfl, ?_, ?_, upd_same, np, ?_, DD.Tys_append.mpr ⟨hG, by unfold DD.Tys; exact ⟨hg, by unfold DD.Tys; trivial⟩⟩, fun _ z => ?_, by rw [nds_append, s1]; omega, by rw [dps_append, s2]; omega⟩
          · exact (kb04.trans (KeepB.same (SameN nq))).new np
          · obtain ⟨x, n', r', e⟩ := hj4.same (SameN (o := .tup [v, .int 0]) nq)
            exact ⟨x, n', r', by rw [upd_ne njp]; exact e⟩
          · have m1 : ∀ a xs, H4 a = some (.tup xs) → upd (upd H4 q (.tup [v, .int 0])) p (.lst (ts ++ [.ref q])) a = some (.tup xs) := fun a xs e => by
              have ne : a ≠ p := by
                rintro rfl
                rw [hp4] at e
                cases e
              rw [upd_ne ne]
              exact SameN nq a _ e
            refine PAts.snoc ((hP3.mono (tj hj3 kb4)).mono m1) ⟨q, v, rfl, ?_, hd _⟩
            rw [upd_ne (Ne.symm nqp), upd_same, d0] <;> rfl
          · simp at z
        · refine ⟨_, rfl, j, 5, rfl, hj3, by decide, by decide, fun n3 hn3 H4 kb4 hj4 => ?_⟩
          have hp4 := kb4 p _ hp3 (Ne.symm njp)
          have kb04 : KeepB H H4 j := (kb2.trans kb3).trans kb4
          have hP4 := hP3.mono (tj hj3 kb4)
          refine ⟨_, rfl, p, ts, rfl, .inl (SqL.of hp4), _, _, rfl, ?_⟩
          obtain ⟨M, hM, hMl⟩ : ∃ M : Nat, (if (ts.length : Int) < (n3 : Int) then (ts.length : Int) else (n3 : Int)) = (M : Int) ∧ M ≤ ts.length := by
            by_cases q : (ts.length : Int) < (n3 : Int)
            · exact ⟨ts.length, by rw [if_pos q], Nat.le_refl _⟩
            · exact ⟨n3, by rw [if_neg q], by omega⟩
          rw [hM]
          obtain ⟨Ln, hLn⟩ : ∃ Ln : Nat, Ln = ts.length - M := ⟨_, rfl⟩
          have hsub : (ts.length : Int) - (M : Int) = (Ln : Int) := by omega
          have hLl : Ln ≤ ts.length := by omega
          refine ⟨_, rfl, _, rfl, p, ts, rfl, .inl (SqL.of hp4), _, rfl, _, _, rfl, rfl, _, rfl, p, ts, rfl, SqL.of hp4, fun q nq => ?_⟩
          rw [hsub, cutV_drop ts hLl]
          -- the parts, the heap grows
          have S1 : Same H4 (upd H4 q (.lst (ts.drop Ln))) := SameN nq
          have hq1 : (upd H4 q (.lst (ts.drop Ln))) q = some (.lst (ts.drop Ln)) := upd_same
          generalize upd H4 q (.lst (ts.drop Ln)) = G1 at S1 hq1 ⊢
          have hPp : PAts G1 (ds.drop Ln) (ts.drop Ln) := (hP4.mono fun a xs e => S1 _ _ e).drop Ln
          refine ⟨by show 1 ≤ sizeLine; omega, fun q2 nq2 => ?_⟩
          have S2 : Same G1 (upd G1 q2 (.lst [.int 0])) := SameN nq2
          have hq22 : (upd G1 q2 (.lst [.int 0])) q2 = some (.lst [.int 0]) := upd_same
          generalize upd G1 q2 (.lst [.int 0]) = G2 at S2 hq22 ⊢
          refine ⟨_, rfl, q, rfl, ⟨_, SqL.of (S2 _ _ hq1)⟩, fun D nD => ?_⟩
          have hlp : (ts.drop Ln).length < 1000 := by rw [List.length_drop]; omega
          refine lc_col 6 (fun _ => rfl) (fun _ => rfl) (out := (ds.drop Ln).map fun d => V.int ((dp d : Nat) : Int)) (S2 _ _ hq1) nD (by omega) (by rw [List.length_map, hPp.1]) (fun i t e => ?_) ?_
          · obtain ⟨a, z, w', e1, e2, e3⟩ := hPp.deps i t e
            exact ⟨a, _, w', e1, S2 _ _ e2, rfl, e3⟩
          have S3 : Same G2 (upd G2 D (.lst ((ds.drop Ln).map fun d => V.int ((dp d : Nat) : Int)))) := SameN nD
          have hD3 : (upd G2 D (.lst ((ds.drop Ln).map fun d => V.int ((dp d : Nat) : Int)))) D = some (.lst ((ds.drop Ln).map fun d => V.int ((dp d : Nat) : Int))) := upd_same
          generalize upd G2 D (.lst ((ds.drop Ln).map fun d => V.int ((dp d : Nat) : Int))) = G3 at S3 hD3 ⊢
          have hlm : ((ds.drop Ln).map fun d => V.int ((dp d : Nat) : Int)).length < 1000 := by rw [List.length_map, ← hPp.1]; exact hlp
          refine ⟨q2, D, _, _, rfl, rfl, S3 _ _ hq22, hD3, by rw [List.length_singleton]; omega, fun p2 np2 => ?_⟩
          have S4 : Same G3 (upd G3 p2 (.lst ([V.int 0] ++ (ds.drop Ln).map fun d => V.int ((dp d : Nat) : Int)))) := SameN np2
          have hp22 : (upd G3 p2 (.lst ([V.int 0] ++ (ds.drop Ln).map fun d => V.int ((dp d : Nat) : Int)))) p2 = some (.lst (((0 : Int) :: (ds.drop Ln).map (fun d => ((dp d : Nat) : Int))).map V.int)) := by
            rw [upd_same, List.map_cons, List.map_map] <;> rfl
          generalize upd G3 p2 (.lst ([V.int 0] ++ (ds.drop Ln).map fun d => V.int ((dp d : Nat) : Int))) = G4 at S4 hp22 ⊢
          refine ⟨p2, _, rfl, SqL.of hp22, by simp, fun m hm hu => ?_⟩
          have hmd := dps_max _ m hm hu
          subst hmd
          -- the pool anew
          have S04 : Same H4 G4 := SameT S1 (SameT S2 (SameT S3 S4))
          refine ⟨_, rfl, _, rfl, p, ts, rfl, .inl (SqL.of (S04 _ _ hp4)), _, rfl, _, _, rfl, rfl, _, rfl, p, ts, rfl, SqL.of (S04 _ _ hp4), fun q3 nq3 => ?_⟩
          rw [hsub, cutV_take ts hLl]
          have S5 : Same G4 (upd G4 q3 (.lst (ts.take Ln))) := SameN nq3
          have hq3 : (upd G4 q3 (.lst (ts.take Ln))) q3 = some (.lst (ts.take Ln)) := upd_same
          generalize upd G4 q3 (.lst (ts.take Ln)) = G5 at S5 hq3 ⊢
          have S15 : Same G1 G5 := SameT S2 (SameT S3 (SameT S4 S5))
          obtain ⟨xs, hxs, hxv⟩ := (hPp.mono fun a ys e => S15 _ _ e).vals
          refine ⟨_, rfl, q, rfl, ⟨_, SqL.of (S15 _ _ hq1)⟩, fun D2 nD2 => ?_⟩
          refine lc_col 6 (fun _ => rfl) (fun _ => rfl) (out := xs) (S15 _ _ hq1) nD2 (by omega) (by rw [hxs.length, hPp.1]) (fun i t e => ?_) ?_
          · obtain ⟨a, z, w', e1, e2, e3⟩ := hxv i t e
            exact ⟨a, _, z, e1, e2, rfl, e3⟩
          have S6 : Same G5 (upd G5 D2 (.lst xs)) := SameN nD2
          have hD2 : (upd G5 D2 (.lst xs)) D2 = some (.lst xs) := upd_same
          generalize upd G5 D2 (.lst xs) = G6 at S6 hD2 ⊢
          refine ⟨D2, xs, rfl, .inl ⟨SqL.of hD2, fun t nt => ?_⟩⟩
          have hdt : DAt (upd G6 t (.tup xs)) (.tup (ds.drop Ln)) (.ref t) := DAt.tup nt (DAts.mono (fun a ys e => S6 _ _ e) hxs)
          have S7 : Same G6 (upd G6 t (.tup xs)) := SameN nt
          generalize upd G6 t (.tup xs) = G7 at S7 hdt ⊢
          refine ⟨_, rfl, _, _, rfl, rfl, by show 2 ≤ sizeLine; omega, fun u nu => ?_⟩
          have S8 : Same G7 (upd G7 u (.tup [.ref t, .int (((dps (ds.drop Ln) : Nat) : Int) + 1)])) := SameN nu
          have hu8 : (upd G7 u (.tup [.ref t, .int (((dps (ds.drop Ln) : Nat) : Int) + 1)])) u = some (.tup [.ref t, .int ((dp (.tup (ds.drop Ln)) : Nat) : Int)]) := by
            rw [upd_same, dp_tup, show ((dps (ds.drop Ln) : Nat) : Int) + 1 = ((1 + dps (ds.drop Ln) : Nat) : Int) by omega]
          generalize upd G7 u (.tup [.ref t, .int (((dps (ds.drop Ln) : Nat) : Int) + 1)]) = G8 at S8 hu8 ⊢
          refine ⟨by show 1 ≤ sizeLine; omega, fun l nl => ?_⟩
          have S9 : Same G8 (upd G8 l (.lst [.ref u])) := SameN nl
          have hl9 : (upd G8 l (.lst [.ref u])) l = some (.lst [.ref u]) := upd_same
          generalize upd G8 l (.lst [.ref u]) = G9 at S9 hl9 ⊢
          have S59 : Same G5 G9 := SameT S6 (SameT S7 (SameT S8 S9))
          have htk : (ts.take Ln).length < 1000 := by rw [List.length_take]; omega
          refine ⟨q3, l, _, _, rfl, rfl, S59 _ _ hq3, hl9, by rw [List.length_singleton]; omega, fun r nr => ?_⟩
          have S10 : Same G9 (upd G9 r (.lst (ts.take Ln ++ [.ref u]))) := SameN nr
          have hr10 : (upd G9 r (.lst (ts.take Ln ++ [.ref u]))) r = some (.lst (ts.take Ln ++ [.ref u])) := upd_same
          have S09 : Same H4 G9 := SameT S04 (SameT S5 S59)
          have nr0 : H r = none := (kb04.trans (KeepB.same S09)).freeJ (hj4.same S09) nr
          generalize upd G9 r (.lst (ts.take Ln ++ [.ref u])) = G10 at S10 hr10 ⊢
          have S010 : Same H4 G10 := SameT S09 S10
          have hsplit : ds.take Ln ++ ds.drop Ln = ds := List.take_append_drop Ln ds
          have hGs : DD.Tys (ds.take Ln) ∧ DD.Tys (ds.drop Ln) := DD.Tys_append.mp (by rw [hsplit]; exact hG)
          have hns : nds (ds.take Ln) + nds (ds.drop Ln) = nds ds := by rw [← nds_append, hsplit]
          have hds : max (dps (ds.take Ln)) (dps (ds.drop Ln)) = dps ds := by rw [← dps_append, hsplit]
          have g0 : DD.Tys [] := by unfold DD.Tys; trivial
          refine ⟨r, ds.take Ln ++ [.tup (ds.drop Ln)], ts.take Ln ++ [.ref u], _, _, _, _, rfl, kb04.trans (KeepB.same S010), hj4.same S010, hr10, nr0, ?_, DD.Tys_append.mpr ⟨hGs.1, by unfold DD.Tys; exact ⟨(DD.Ty_tup _).mpr hGs.2, g0⟩⟩, fun _ z => ?_, ?_, ?_⟩
          · refine PAts.snoc ((hP4.take Ln).mono fun a ys e => S010 _ _ e) ⟨u, .ref t, rfl, S10 _ _ (S9 _ _ hu8), DAt.mono (fun a ys e => S10 _ _ (S9 _ _ (S8 _ _ e))) hdt⟩
          · simp at z
          · rw [nds_append, show nds [.tup (ds.drop Ln)] = 1 + nds (ds.drop Ln) by rw [nds, nd_tup, show nds [] = 0 by rw [nds]] <;> rfl]
            omega
          · rw [dps_append, show dps [.tup (ds.drop Ln)] = 1 + dps (ds.drop Ln) by rw [dps, dp_tup, show dps [] = 0 by rw [dps]]; omega]
            omega
      · rintro _ H2 ⟨p, ds, ts, x3, x4, x5, x6, rfl, kb2, hj2, hp2, np, hP, hG, hne, hn1, hd1⟩
        exact ⟨p, ds, ts, x3, x4, x5, x6, rfl, kb2, hj2, hp2, np, hP, hG, hne (by omega), by omega, by omega⟩
    · rintro _ H2 ⟨p, ds, ts, x3, x4, x5, x6, rfl, kb2, hj2, hp2, np, hP, hG, hne, hn1, hd1⟩
      have htl := hP.1
      refine ⟨_, rfl, p, ts, rfl, .inl (SqL.of hp2), rfl, _, rfl, ?_⟩
      have hdsl : ds.length ≤ nds ds := by
        clear hP hG hne hn1 hd1 htl
        induction ds with
        | nil => exact Nat.zero_le _
        | cons d ds ih => rw [nds, List.length_cons]; have := nd_pos d; omega
      refine iteC (fun hl => ?_) (fun hl => ?_)
      · have hl1 : ts.length = 1 := by
          have := V.int.inj hl
          omega
        obtain ⟨d, rfl⟩ : ∃ d, ds = [d] := by
          match ds, (show ds.length = 1 by omega) with
          | [d], _ => exact ⟨d, rfl⟩
        obtain ⟨t, h1, a, v, e, ha, hd⟩ := hP.2 0 d rfl
        unfold DD.Tys at hG
        have n0 : nds [] = 0 := by rw [nds]
        have d0 : dps [] = 0 := by rw [dps]
        rw [nds, n0] at hn1
        rw [dps, d0] at hd1
        subst e
        exact ⟨_, rfl, p, ts, 0, .ref a, rfl, rfl, SqL.of hp2, atI_nat h1, k d v a H2 hG.1 hd (by omega) (by omega) ha kb2 hj2⟩
      · obtain ⟨xs, hxs, hxv⟩ := hP.vals
        refine ⟨_, rfl, p, rfl, ⟨_, SqL.of hp2⟩, fun D2 nD2 => ?_⟩
        refine lc_col 6 (fun _ => rfl) (fun _ => rfl) (out := xs) hp2 nD2 (by omega) (by rw [hxs.length, hP.1]) (fun i t e => ?_) ?_
        · obtain ⟨a, z, w', e1, e2, e3⟩ := hxv i t e
          exact ⟨a, _, z, e1, e2, rfl, e3⟩
        have S6 : Same H2 (upd H2 D2 (.lst xs)) := SameN nD2
        have hD2 : (upd H2 D2 (.lst xs)) D2 = some (.lst xs) := upd_same
        generalize upd H2 D2 (.lst xs) = G6 at S6 hD2 ⊢
        refine ⟨D2, xs, rfl, .inl ⟨SqL.of hD2, fun t nt => ?_⟩⟩
        have hdt : DAt (upd G6 t (.tup xs)) (.tup ds) (.ref t) := DAt.tup nt (DAts.mono (fun a ys e => S6 _ _ e) hxs)
        have S7 : Same G6 (upd G6 t (.tup xs)) := SameN nt
        generalize upd G6 t (.tup xs) = G7 at S7 hdt ⊢
        have S27 : Same H2 G7 := SameT S6 S7
        refine ⟨_, rfl, p, rfl, ⟨_, SqL.of (S27 _ _ hp2)⟩, fun D nD => ?_⟩
        refine lc_col 6 (fun _ => rfl) (fun _ => rfl) (out := ds.map fun d => V.int ((dp d : Nat) : Int)) (S27 _ _ hp2) nD (by omega) (by rw [List.length_map, hP.1]) (fun i t e => ?_) ?_
        · obtain ⟨a, z, w', e1, e2, e3⟩ := hP.deps i t e
          exact ⟨a, _, w', e1, S27 _ _ e2, rfl, e3⟩
        have S8 : Same G7 (upd G7 D (.lst (ds.map fun d => V.int ((dp d : Nat) : Int)))) := SameN nD
        have hD8 : (upd G7 D (.lst (ds.map fun d => V.int ((dp d : Nat) : Int)))) D = some (.lst ((ds.map (fun d => ((dp d : Nat) : Int))).map V.int)) := by
          rw [upd_same, List.map_map] <;> rfl
        generalize upd G7 D (.lst (ds.map fun d => V.int ((dp d : Nat) : Int))) = G8 at S8 hD8 ⊢
        refine ⟨D, _, rfl, SqL.of hD8, ?_, fun m hm hu => ?_⟩
        · rw [List.length_map]
          exact List.length_pos_iff.mpr hne
        have hm0 : 0 ≤ m := by
          obtain ⟨d, _, e⟩ := List.mem_map.mp hm
          omega
        have hmd : m = ((dps ds : Nat) : Int) := dps_max ds m (List.mem_cons_of_mem _ hm) fun y hy => by
          rcases List.mem_cons.mp hy with rfl | hy
          · exact hm0
          · exact hu y hy
        subst hmd
        refine ⟨_, _, rfl, rfl, by show 2 ≤ sizeLine; omega, fun u nu => ?_⟩
        have S28 : Same H2 G8 := SameT S27 S8
        have S9 : Same G8 (upd G8 u (.tup [.ref t, .int (1 + ((dps ds : Nat) : Int))])) := SameN nu
        have hu9 : (upd G8 u (.tup [.ref t, .int (1 + ((dps ds : Nat) : Int))])) u = some (.tup [.ref t, .int ((dp (.tup ds) : Nat) : Int)]) := by
          rw [upd_same, dp_tup, show 1 + ((dps ds : Nat) : Int) = ((1 + dps ds : Nat) : Int) by omega]
        generalize upd G8 u (.tup [.ref t, .int (1 + ((dps ds : Nat) : Int))]) = G9 at S9 hu9 ⊢
        have S29 : Same H2 G9 := SameT S28 S9
        exact k (.tup ds) (.ref t) u G9 ((DD.Ty_tup ds).mpr hG) (DAt.mono (fun a ys e => S9 _ _ (S8 _ _ e)) hdt) (by rw [dp_tup]; omega) (by rw [nd_tup]; omega) hu9 (kb2.trans (KeepB.same S29)) (hj2.same S29)
end
end K80

set_option Elab.async false
set_option linter.all false
set_option maxRecDepth 100000
set_option maxHeartbeats 4000000
/-! Y13 (k80): wrapped. -/
namespace K80
open PySem PySem.Spec PyProof.Rows L2 DD
section
variable {w : World} {K : PySem.W.Frag} {mg : Str → Option Value} {base : Heap}
def spWrapped : Sp := fun vs H Q _ => ∃ (j : Addr) (d : D) (v : V) (t : Nat), vs = [.ref j, v, .int t] ∧ JarAt H j ∧ DAt H d v ∧ DD.Ty d ∧ t ≤ 100 ∧ ∀ d' v' H', DD.Ty d' → DAt H' d' v' → dp d' = dp d + t → nd d' ≤ nd d + 2 * t → KeepB H H' j → JarAt H' j → Q v' H'
theorem scWp : FnScope ["jar", "value", "turns", "step"] ["jar", "value", "turns"] (defScope sWrapped) := ⟨rfl, rfl, rfl, by decide +kernel, rfl, by decide +kernel, by decide +kernel⟩
theorem ok_wrapped {fd : FuncData} (F : FnG K "_law_wrapped" sWrapped fd) (IP : Id w K mg base 3 (He.ga K "_law_pick") ["jar", "row"] (spPick K)) (T : Txt PG w K mg) :
    FnOk PG w K mg base CX0 5 (He.ga K "_law_wrapped") fd ["jar", "value", "turns"] spWrapped := by
  obtain ⟨fdP, GP, bP, kP⟩ := IP.ex
  have nd_ := scWp.nd
  refine F.ok scWp (fun vs H Q E h => ?_) (fun cdv A outer s H vs Q E hr h => ⟨_, PSs.nox (
    pss_cons (ps_for PassesOwn.never rfl (pi_range1 rfl T.n_range (pa_cons (pv 2) pa_nil)) (pg_name (i := 3) nd_ rfl (Or.inl rfl)) <|
       pss_one (ps_set (i := 1) nd_ rfl (Or.inl rfl) (pe_call GP (hr.mono (by decide)) rfl T.g_l_pick kP bP .nil pass0 (pa_cons (pv 0) (pa_cons (pe_lst
         (pa_cons (pe_tup (pa_cons (pv 1) pa_nil)) <| pa_cons (pe_tup (pa_cons (pv 1) (pa_cons (pv 3) pa_nil))) <| pa_cons (pe_tup (pa_cons pe_non (pa_cons (pv 1) pa_nil))) <| pa_cons (pe_tup (pa_cons pe_str (pa_cons (pv 1) pa_nil))) pa_nil)) pa_nil))))) <|
    pss_one (ps_ret (pv 1))), ?_⟩)
  · obtain ⟨j, d, v, t, rfl, _⟩ := h
    rfl
  · obtain ⟨j, d, v, t, rfl, hj, hd, hg, ht, k⟩ := h
    have sz : (1000 : Nat) < sizeLine := by rw [sizeLine_eq]; decide
    refine ⟨_, rfl, _, rfl, by omega, by omega, ?_⟩
    refine for_range (n := t) (fun i σ H' => KeepB H H' j ∧ JarAt H' j ∧ ∃ d' v' x, σ = [some (.ref j), some v', some (.int t), x] ∧ DD.Ty d' ∧ DAt H' d' v' ∧ dp d' = dp d + i ∧ nd d' ≤ nd d + 2 * i) ⟨KeepB.refl, hj, d, v, _, rfl, hg, hd, rfl, Nat.le_refl _⟩ ?_ ?_
    · rintro i _ H1 hi ⟨kb1, hj1, d', v', x, rfl, hg', hd', e1, e2⟩
      have g0 : DD.Tys [] := by unfold DD.Tys; trivial
      have d0 : dps [] = 0 := by rw [dps]
      have n0 : nds [] = 0 := by rw [nds]
      refine ⟨_, rfl, _, rfl, by show 1 ≤ sizeLine; omega, fun p1 m1 => ?_⟩
      have q1 := DAt.tup m1 (DAts.cons hd' DAts.nil)
      have c1 := DAt.new (o := .tup [v']) m1 hd'
      have S1 : Same H1 (upd H1 p1 (.tup [v'])) := SameN m1
      generalize upd H1 p1 (.tup [v']) = A1 at q1 c1 S1 ⊢
      refine ⟨_, rfl, _, rfl, by show 2 ≤ sizeLine; omega, fun p2 m2 => ?_⟩
      have i2 : DAt A1 (.int (0 + (i : Int))) (.int (0 + (i : Int))) := by unfold DAt; rfl
      have q2 := DAt.tup m2 (DAts.cons c1 (DAts.cons i2 DAts.nil))
      have S2 : Same A1 (upd A1 p2 (.tup [v', .int (0 + (i : Int))])) := SameN m2
      have r12 := DAt.new (o := .tup [v', .int (0 + (i : Int))]) m2 q1
      have c2 := DAt.new (o := .tup [v', .int (0 + (i : Int))]) m2 c1
      generalize upd A1 p2 (.tup [v', .int (0 + (i : Int))]) = A2 at q2 S2 r12 c2 ⊢
      refine ⟨_, rfl, by show 2 ≤ sizeLine; omega, fun p3 m3 => ?_⟩
      have i3 : DAt A2 .non .non := by unfold DAt; rfl
      have q3 := DAt.tup m3 (DAts.cons i3 (DAts.cons c2 DAts.nil))
      have S3 : Same A2 (upd A2 p3 (.tup [.non, v'])) := SameN m3
      have r13 := DAt.new (o := .tup [.non, v']) m3 r12
      have r23 := DAt.new (o := .tup [.non, v']) m3 q2
      have c3 := DAt.new (o := .tup [.non, v']) m3 c2
      generalize upd A2 p3 (.tup [.non, v']) = A3 at q3 S3 r13 r23 c3 ⊢
      refine ⟨_, rfl, by show 2 ≤ sizeLine; omega, fun p4 m4 => ?_⟩
      have i4 : DAt A3 (.str [40]) (.str ("(" : Str)) := by unfold DAt; rfl
      have q4 := DAt.tup m4 (DAts.cons i4 (DAts.cons c3 DAts.nil))
      have S4 : Same A3 (upd A3 p4 (.tup [.str ("(" : Str), v'])) := SameN m4
      have r14 := DAt.new (o := .tup [.str ("(" : Str), v']) m4 r13
      have r24 := DAt.new (o := .tup [.str ("(" : Str), v']) m4 r23
      have r34 := DAt.new (o := .tup [.str ("(" : Str), v']) m4 q3
      show 4 ≤ sizeLine ∧ _
      generalize upd A3 p4 (.tup [.str ("(" : Str), v']) = A4 at q4 S4 r14 r24 r34 ⊢
      refine ⟨by omega, fun l nl => ?_⟩
      have S14 : Same H1 A4 := SameT S1 (SameT S2 (SameT S3 S4))
      have S5 : Same A4 (upd A4 l (.lst [.ref p1, .ref p2, .ref p3, .ref p4])) := SameN nl
      have hl : (upd A4 l (.lst [.ref p1, .ref p2, .ref p3, .ref p4])) l = some (.lst [.ref p1, .ref p2, .ref p3, .ref p4]) := upd_same
      have hj4 : JarAt A4 j := hj1.same S14
      have njl := hj4.ne nl
      refine ⟨j, l, _, rfl, hj4.upd nl, hl, by first | exact njl | exact Ne.symm njl, by simp, by simp, fun y hy H3 kb3 hj3 => ?_⟩
      have kb := kb1.trans ((KeepB.same (SameT S14 S5)).trans kb3)
      have fin : ∀ (dl : List D) (p : Addr), DAt A4 (.tup dl) (.ref p) → DD.Tys dl → dps dl = dp d' → nds dl ≤ nd d' + 1 → KeepB H H3 j ∧ JarAt H3 j ∧ ∃ d'' v'' x, ([some (.ref j), some (.ref p), some (.int t), some (.int (0 + (i : Int)))] : L2.St) = [some (.ref j), some v'', some (.int t), x] ∧ DD.Ty d'' ∧ DAt H3 d'' v'' ∧ dp d'' = dp d + (i + 1) ∧ nd d'' ≤ nd d + 2 * (i + 1) := fun dl p a b c e =>
        ⟨kb, hj3, .tup dl, .ref p, _, rfl, (DD.Ty_tup dl).mpr b, DAt.keepJ (hj4.upd nl) kb3 (DAt.new nl a), by rw [dp_tup, c]; omega, by rw [nd_tup]; omega⟩
      simp only [List.mem_cons, List.mem_nil_iff, or_false] at hy
      rcases hy with rfl | rfl | rfl | rfl
      · refine fin _ _ r14 (by unfold DD.Tys; exact ⟨hg', g0⟩) (by rw [dps, d0]; omega) (by rw [nds, n0]; omega)
      · refine fin _ _ r24 (by unfold DD.Tys; exact ⟨hg', by unfold DD.Tys; exact ⟨(Ty_int _).mpr (Nat.lt_of_le_of_lt (show (0 + (i : Int)).natAbs ≤ 100 by omega) (by decide)), g0⟩⟩) (by rw [dps, dps, d0, show dp (.int (0 + (i : Int))) = 0 by rw [dp.eq_def]]; omega) (by rw [nds, nds, n0, show nd (.int (0 + (i : Int))) = 1 by rw [nd.eq_def]]; omega)
      · refine fin _ _ r34 (by unfold DD.Tys; exact ⟨by unfold DD.Ty; trivial, by unfold DD.Tys; exact ⟨hg', g0⟩⟩) (by rw [dps, dps, d0, show dp .non = 0 by rw [dp.eq_def]]; omega) (by rw [nds, nds, n0, show nd .non = 1 by rw [nd.eq_def]]; omega)
      · refine fin _ _ q4 (by unfold DD.Tys; exact ⟨(Ty_str _).mpr ⟨by decide, by decide⟩, by unfold DD.Tys; exact ⟨hg', g0⟩⟩) (by rw [dps, dps, d0, show dp (.str [40]) = 0 by rw [dp.eq_def]]; omega) (by rw [nds, nds, n0, show nd (.str [40]) = 1 by rw [nd.eq_def]]; omega)
    · rintro _ H1 ⟨kb1, hj1, d', v', x, rfl, hg', hd', e1, e2⟩
      exact ⟨_, rfl, k d' v' H1 hg' hd' e1 e2 kb1 hj1⟩
end
end K80

set_option Elab.async false
set_option linter.all false
set_option maxRecDepth 100000
set_option maxHeartbeats 4000000
/-! Y14 (k80): slices and repeats of texts; spoilt. -/
namespace K80
open PySem PySem.Spec PyProof.Rows L2 DD
theorem op_mul_str {X : Cx} : OpR X (binaryOp .Mult) (fun x y H Q => ∃ (z : Str) (n : Int), x = .str z ∧ y = .int n ∧ MulOk z n ∧ Q (.str (Txt.mul z n)) H) := by
  intro pins s σ H x y v u Q I rx ry h
  obtain ⟨z, n, rfl, rfl, hz, q⟩ := h
  obtain ⟨t, rfl⟩ := rx
  obtain ⟨t', rfl⟩ := ry
  exact SB.mul hz (fun t' tk => ⟨.str (Txt.mul z n), H, I.tok _, ⟨_, rfl⟩, q⟩)
theorem cut_up (L : List Nat) (p : Nat) : cutS (S L) none (some (p : Int)) = S (L.take p) := by
  unfold cutS
  rw [HT.sIx_nat, HT.sIx_none, SX.S_len, List.drop_zero]
  show S (L.take (min p L.length - 0)) = _
  rw [Nat.sub_zero]
  congr 1
  by_cases h : p ≤ L.length
  · rw [Nat.min_eq_left h]
  · rw [Nat.min_eq_right (by omega), List.take_of_length_le (Nat.le_refl _), List.take_of_length_le (by omega)]
theorem cut_fr (L : List Nat) (p : Nat) : cutS (S L) (some (p : Int)) none = S (L.drop p) := by
  unfold cutS
  rw [HT.sIx_nat, HT.sIx_none, SX.S_len]
  show S ((L.drop (min p L.length)).take (L.length - min p L.length)) = _
  congr 1
  rw [List.take_of_length_le (by rw [List.length_drop]; exact Nat.le_refl _)]
  by_cases h : p ≤ L.length
  · rw [Nat.min_eq_left h]
  · rw [Nat.min_eq_right (by omega), List.drop_of_length_le (Nat.le_refl _), List.drop_of_length_le (by omega)]
theorem cut_seg (L : List Nat) (p k : Nat) : cutS (S L) (some (p : Int)) (some ((p + k : Nat) : Int)) = S ((L.drop p).take k) := by
  unfold cutS
  rw [HT.sIx_nat, HT.sIx_nat, SX.S_len]
  show S ((L.drop (min p L.length)).take (min (p + k) L.length - min p L.length)) = _
  congr 1
  by_cases h : p ≤ L.length
  · rw [Nat.min_eq_left h]
    by_cases h2 : p + k ≤ L.length
    · rw [Nat.min_eq_left h2, Nat.add_sub_cancel_left]
    · rw [Nat.min_eq_right (by omega), List.take_of_length_le (by rw [List.length_drop]; exact Nat.le_refl _), List.take_of_length_le (by rw [List.length_drop]; omega)]
  · have h1 : min p L.length = L.length := by omega
    have h2 : min (p + k) L.length = L.length := by omega
    rw [h1, h2, List.drop_of_length_le (Nat.le_refl _), List.drop_of_length_le (show L.length ≤ p by omega), List.take_nil, List.take_nil]
theorem np {σ : L2.St} {H : Hp} {R : Option Int → Hp → Prop} (h : R none H) : tNoPart σ H R := h
theorem rUp {L : List Nat} {p : Nat} {H : Hp} {Q : VK} (hl : L.length ≤ sizeLine) (h : Q (.str (S (L.take p))) H) : rSlS (.str (S L)) none (some (p : Int)) H Q := ⟨S L, rfl, by rw [SX.S_len]; exact hl, by rw [cut_up]; exact h⟩
theorem rFr {L : List Nat} {p : Nat} {H : Hp} {Q : VK} (hl : L.length ≤ sizeLine) (h : Q (.str (S (L.drop p))) H) : rSlS (.str (S L)) (some (p : Int)) none H Q := ⟨S L, rfl, by rw [SX.S_len]; exact hl, by rw [cut_fr]; exact h⟩
theorem rFr1 {L : List Nat} {p : Nat} {H : Hp} {Q : VK} (hl : L.length ≤ sizeLine) (h : Q (.str (S (L.drop (p + 1)))) H) : rSlS (.str (S L)) (some ((p : Int) + 1)) none H Q := rFr (p := p + 1) hl h
theorem rFr2 {L : List Nat} {p : Nat} {H : Hp} {Q : VK} (hl : L.length ≤ sizeLine) (h : Q (.str (S (L.drop (p + 2)))) H) : rSlS (.str (S L)) (some ((p : Int) + 2)) none H Q := rFr (p := p + 2) hl h
theorem rOne {L : List Nat} {p : Nat} {H : Hp} {Q : VK} (hl : L.length ≤ sizeLine) (h : Q (.str (S ((L.drop p).take 1))) H) : rSlS (.str (S L)) (some (p : Int)) (some ((p : Int) + 1)) H Q := ⟨S L, rfl, by rw [SX.S_len]; exact hl, by
  have e := cut_seg L p 1
  rw [show ((p + 1 : Nat) : Int) = (p : Int) + 1 by omega] at e
  rw [e]
  exact h⟩
theorem rOne1 {L : List Nat} {p : Nat} {H : Hp} {Q : VK} (hl : L.length ≤ sizeLine) (h : Q (.str (S ((L.drop (p + 1)).take 1))) H) : rSlS (.str (S L)) (some ((p : Int) + 1)) (some ((p : Int) + 2)) H Q := ⟨S L, rfl, by rw [SX.S_len]; exact hl, by
  have e := cut_seg L (p + 1) 1
  rw [show ((p + 1 : Nat) : Int) = (p : Int) + 1 by omega, show ((p + 1 + 1 : Nat) : Int) = (p : Int) + 2 by omega] at e
  rw [e]
  exact h⟩
theorem rAdd {A B : List Nat} {H : Hp} {Q : VK} (hl : A.length + B.length ≤ sizeLine) (h : Q (.str (S (A ++ B))) H) : ∃ i j, V.str (S A) = .str i ∧ V.str (S B) = .str j ∧ i.length + j.length ≤ sizeLine ∧ Q (.str (i ++ j)) H :=
  ⟨S A, S B, rfl, rfl, by rw [SX.S_len, SX.S_len]; exact hl, by rw [S_app]; exact h⟩
theorem okA_take {L : List Nat} (h : L.all okA = true) (p : Nat) : (L.take p).all okA = true := List.all_eq_true.mpr fun c hc => List.all_eq_true.mp h c (List.mem_of_mem_take hc)
theorem okA_drop {L : List Nat} (h : L.all okA = true) (p : Nat) : (L.drop p).all okA = true := List.all_eq_true.mpr fun c hc => List.all_eq_true.mp h c (List.mem_of_mem_drop hc)
theorem okA_app {L M : List Nat} (h : L.all okA = true) (h2 : M.all okA = true) : (L ++ M).all okA = true := by rw [List.all_append, h, h2] <;> rfl
def MN : Str := ("\"\\() 0123456789-ntfeuoralsN" : Str) ++ ("\n~+.,'[]{}/" : Str)
theorem MN_len : 0 < MN.length ∧ MN.length < 1000 := by decide +kernel
theorem MN_ok : MN.cps.toList.all okA = true := by decide +kernel
section
variable {w : World} {K : PySem.W.Frag} {mg : Str → Option Value} {base : Heap}
def spSpoilt : Sp := fun vs H Q _ => ∃ (j : Addr) (L : List Nat), vs = [.ref j, .str (S L)] ∧ JarAt H j ∧ L.all okA = true ∧ L.length ≤ 5000 ∧ ∀ (M : List Nat) H', M.all okA = true → M.length ≤ L.length + 1 → KeepB H H' j → JarAt H' j → Q (.str (S M)) H'
theorem scSp : FnScope ["jar", "text", "menu", "sign", "way", "place"] ["jar", "text"] (defScope sSpoilt) := ⟨rfl, rfl, rfl, by decide +kernel, rfl, by decide +kernel, by decide +kernel⟩
theorem ok_spoilt {fd : FuncData} (F : FnG K "_law_spoilt" sSpoilt fd) (ID : Id w K mg base 2 (He.ga K "_law_draw") ["jar", "many"] spDraw) (T : Txt PG w K mg) :
    FnOk PG w K mg base CX0 5 (He.ga K "_law_spoilt") fd ["jar", "text"] spSpoilt := by
  obtain ⟨fdD, GD, bD, kD⟩ := ID.ex
  have nd_ := scSp.nd
  refine F.ok scSp (fun vs H Q E h => ?_) (fun cdv A outer s H vs Q E hr h => ⟨_, PSs.nox (
    pss_cons (ps_set (i := 2) nd_ rfl (Or.inl rfl) (pe_op op_add_str pe_str pe_str)) <|
    pss_cons (ps_set (i := 3) nd_ rfl (Or.inl rfl) (pe_ix ix_str (pv 2) (pe_call GD (hr.mono (by decide)) rfl T.g_l_draw kD bD .nil pass0 (pa_cons (pv 0) (pa_cons (pe_callB call_len_str (by rfl) T.n_len boot_len (pa_cons (pv 2) pa_nil)) pa_nil))) (fun _ _ => rfl))) <|
    pss_cons (ps_set (i := 4) nd_ rfl (Or.inl rfl) (pe_call GD (hr.mono (by decide)) rfl T.g_l_draw kD bD .nil pass0 (pa_cons (pv 0) (pa_cons pe_int pa_nil)))) <|
    pss_cons (ps_set (i := 5) nd_ rfl (Or.inl rfl) (pe_call GD (hr.mono (by decide)) rfl T.g_l_draw kD bD .nil pass0 (pa_cons (pv 0) (pa_cons (pe_op op_add (pe_callB call_len_str (by rfl) T.n_len boot_len (pa_cons (pv 1) pa_nil)) pe_int) pa_nil)))) <|
    pss_cons (ps_if (pt_cmpR op_lt (pv 4) pe_int (nomark _)) (pss_one (ps_ret (pe_op op_add_str (pe_op op_add_str (pe_slice sl_str (pv 1) po_none (po_some (pv 5))) (pv 3)) (pe_slice sl_str (pv 1) (po_some (pe_op op_add (pv 5) pe_int)) po_none)))) pss_nil) <|
    pss_cons (ps_if (pt_cmpR op_lt (pv 4) pe_int (nomark _)) (pss_one (ps_ret (pe_op op_add_str (pe_op op_add_str (pe_slice sl_str (pv 1) po_none (po_some (pv 5))) (pv 3)) (pe_slice sl_str (pv 1) (po_some (pv 5)) po_none)))) pss_nil) <|
    pss_cons (ps_if (pt_cmpR op_eq (pv 4) pe_int (nomark _)) (pss_one (ps_ret (pe_op op_add_str (pe_slice sl_str (pv 1) po_none (po_some (pv 5))) (pe_slice sl_str (pv 1) (po_some (pe_op op_add (pv 5) pe_int)) po_none)))) pss_nil) <|
    pss_cons (ps_if (pt_cmpR op_eq (pv 4) pe_int (nomark _)) (pss_one (ps_ret (pe_op op_add_str (pe_op op_add_str (pe_slice sl_str (pv 1) po_none (po_some (pv 5))) (pe_slice sl_str (pv 1) (po_some (pv 5)) (po_some (pe_op op_add (pv 5) pe_int)))) (pe_slice sl_str (pv 1) (po_some (pv 5)) po_none)))) pss_nil) <|
    pss_cons (ps_if (pt_cmpR op_eq (pv 4) pe_int (nomark _)) (pss_one (ps_ret (pe_op op_add_str (pe_op op_add_str (pe_op op_add_str (pe_slice sl_str (pv 1) po_none (po_some (pv 5)))
        (pe_slice sl_str (pv 1) (po_some (pe_op op_add (pv 5) pe_int)) (po_some (pe_op op_add (pv 5) pe_int)))) (pe_slice sl_str (pv 1) (po_some (pv 5)) (po_some (pe_op op_add (pv 5) pe_int)))) (pe_slice sl_str (pv 1) (po_some (pe_op op_add (pv 5) pe_int)) po_none)))) pss_nil) <|
    pss_one (ps_ret (pe_slice sl_str (pv 1) po_none (po_some (pv 5))))), ?_⟩)
  · obtain ⟨j, L, rfl, _⟩ := h
    rfl
  · obtain ⟨j, L, rfl, hj, hL, hl, k⟩ := h
    have sz : (100000 : Nat) < sizeLine := by rw [sizeLine_eq]; decide
    refine ⟨_, _, rfl, rfl, Nat.le_trans (by decide +kernel : _ ≤ 1000) (by omega), ?_⟩
    rw [show (("\"\\() 0123456789-ntfeuoralsN" : Str) ++ ("\n~+.,'[]{}/" : Str)) = MN from rfl]
    refine ⟨_, rfl, _, rfl, _, rfl, MN, rfl, by have := MN_len.2; omega, j, _, rfl, hj, by have := MN_len.1; omega, by have := MN_len.2; omega, fun i3 hi3 H1 kb1 hj1 => ?_⟩
    have hlt : i3 < MN.cps.toList.length := by
      have : MN.length = MN.cps.toList.length := rfl
      omega
    refine ⟨MN, i3, MN.cps.toList[i3], rfl, rfl, by have := MN_len.2; omega, atI_nat (List.getElem?_eq_getElem hlt), ?_⟩
    have hc := List.all_eq_true.mp MN_ok _ (List.getElem_mem hlt)
    generalize MN.cps.toList[i3] = c at hc
    have hone : (V.str ⟨#[c]⟩) = .str (S [c]) := rfl
    rw [hone]
    refine ⟨_, rfl, j, 8, rfl, hj1, by decide, by decide, fun way hway H2 kb2 hj2 => ?_⟩
    refine ⟨_, rfl, _, rfl, _, rfl, by rw [SX.S_len]; omega, _, _, rfl, rfl, j, _, rfl, hj2, by rw [SX.S_len]; omega, by rw [SX.S_len]; omega, fun p hp H3 kb3 hj3 => ?_⟩
    have kb : KeepB H H3 j := (kb1.trans kb2).trans kb3
    have hls : L.length ≤ sizeLine := by omega
    have fin : ∀ M : List Nat, M.all okA = true → M.length ≤ L.length + 1 → Q (.str (S M)) H3 := fun M a b => k M H3 a b kb hj3
    clear kb1 kb2 kb3 hj1 hj2 k hp
    have t1 := fun p => okA_take hL p
    have t2 := fun p => okA_drop hL p
    have t3 := fun p q => okA_take (okA_drop hL p) q
    refine ⟨_, rfl, _, _, rfl, rfl, _, rfl, ?_⟩
    refine iteC (fun _ => ?_) (fun _ => ?_)
    · refine ⟨_, rfl, _, rfl, _, rfl, ?_⟩
      apply rUp hls
      refine ⟨_, rfl, ?_⟩
      refine ⟨_, _, rfl, rfl, by rw [SX.S_len, SX.S_len]; simp only [List.length_take, List.length_singleton]; omega, ?_⟩
      rw [S_app]
      refine ⟨_, rfl, _, rfl, _, _, rfl, rfl, _, rfl, ?_⟩
      apply np
      apply rFr1 hls
      refine ⟨_, _, rfl, rfl, by rw [SX.S_len, SX.S_len]; simp only [List.length_take, List.length_drop, List.length_append, List.length_singleton]; omega, ?_⟩
      rw [S_app]
      exact fin _ (by simp only [List.all_append, List.all_cons, List.all_nil, hc, t1, t2, Bool.and_true]) (by simp only [List.length_take, List.length_drop, List.length_append, List.length_singleton]; omega)
    refine ⟨_, rfl, _, _, rfl, rfl, _, rfl, ?_⟩
    refine iteC (fun _ => ?_) (fun _ => ?_)
    · refine ⟨_, rfl, _, rfl, _, rfl, ?_⟩
      apply rUp hls
      refine ⟨_, rfl, ?_⟩
      refine ⟨_, _, rfl, rfl, by rw [SX.S_len, SX.S_len]; simp only [List.length_take, List.length_singleton]; omega, ?_⟩
      rw [S_app]
      refine ⟨_, rfl, _, rfl, _, rfl, ?_⟩
      apply np
      apply rFr hls
      refine ⟨_, _, rfl, rfl, by rw [SX.S_len, SX.S_len]; simp only [List.length_take, List.length_drop, List.length_append, List.length_singleton]; omega, ?_⟩
      rw [S_app]
      exact fin _ (by simp only [List.all_append, List.all_cons, List.all_nil, hc, t1, t2, Bool.and_true]) (by simp only [List.length_take, List.length_drop, List.length_append, List.length_singleton]; omega)
    refine ⟨_, rfl, rfl, _, rfl, ?_⟩
    refine iteC (fun _ => ?_) (fun _ => ?_)
    · refine ⟨_, rfl, _, rfl, _, rfl, ?_⟩
      apply rUp hls
      refine ⟨_, rfl, _, rfl, _, _, rfl, rfl, _, rfl, ?_⟩
      apply np
      apply rFr1 hls
      refine ⟨_, _, rfl, rfl, by rw [SX.S_len, SX.S_len]; simp only [List.length_take, List.length_drop]; omega, ?_⟩
      rw [S_app]
      exact fin _ (by simp only [List.all_append, t1, t2, Bool.and_true]) (by simp only [List.length_take, List.length_drop, List.length_append]; omega)
    refine ⟨_, rfl, rfl, _, rfl, ?_⟩
    refine iteC (fun _ => ?_) (fun _ => ?_)
    · refine ⟨_, rfl, _, rfl, _, rfl, ?_⟩
      apply rUp hls
      refine ⟨_, rfl, _, rfl, _, rfl, _, rfl, _, _, rfl, rfl, _, rfl, ?_⟩
      apply rOne hls
      refine ⟨_, _, rfl, rfl, by rw [SX.S_len, SX.S_len]; simp only [List.length_take, List.length_drop]; omega, ?_⟩
      rw [S_app]
      refine ⟨_, rfl, _, rfl, _, rfl, ?_⟩
      apply np
      apply rFr hls
      refine ⟨_, _, rfl, rfl, by rw [SX.S_len, SX.S_len]; simp only [List.length_take, List.length_drop, List.length_append]; omega, ?_⟩
      rw [S_app]
      exact fin _ (by simp only [List.all_append, t1, t2, t3, Bool.and_true]) (by simp only [List.length_take, List.length_drop, List.length_append]; omega)
    refine ⟨_, rfl, rfl, _, rfl, ?_⟩
    refine iteC (fun _ => ?_) (fun _ => ?_)
    · refine ⟨_, rfl, _, rfl, _, rfl, ?_⟩
      apply rUp hls
      refine ⟨_, rfl, _, rfl, _, _, rfl, rfl, _, rfl, _, rfl, _, _, rfl, rfl, _, rfl, ?_⟩
      apply rOne1 hls
      refine ⟨_, _, rfl, rfl, by rw [SX.S_len, SX.S_len]; simp only [List.length_take, List.length_drop]; omega, ?_⟩
      rw [S_app]
      refine ⟨_, rfl, _, rfl, _, rfl, _, rfl, _, _, rfl, rfl, _, rfl, ?_⟩
      apply rOne hls
      refine ⟨_, _, rfl, rfl, by rw [SX.S_len, SX.S_len]; simp only [List.length_take, List.length_drop, List.length_append]; omega, ?_⟩
      rw [S_app]
      refine ⟨_, rfl, _, rfl, _, _, rfl, rfl, _, rfl, ?_⟩
      apply np
      apply rFr2 hls
      refine ⟨_, _, rfl, rfl, by rw [SX.S_len, SX.S_len]; simp only [List.length_take, List.length_drop, List.length_append]; omega, ?_⟩
      rw [S_app]
      exact fin _ (by simp only [List.all_append, t1, t2, t3, Bool.and_true]) (by simp only [List.length_take, List.length_drop, List.length_append]; omega)
    refine ⟨_, rfl, _, rfl, _, rfl, ?_⟩
    apply rUp hls
    exact fin _ (t1 _) (by simp only [List.length_take]; omega)
end
end K80

set_option Elab.async false
set_option linter.all false
set_option maxRecDepth 100000
set_option maxHeartbeats 4000000
/-! Y15 (k80): great_agrees. -/
namespace K80
open PySem PySem.Spec PyProof.Rows L2 DD
theorem fold_tl (a : Array Nat) : ∀ (n : Nat) (acc : Array Nat), ((List.replicate n a).foldl (· ++ ·) acc).toList = acc.toList ++ (List.replicate n a.toList).flatten
  | 0, acc => by simp
  | n + 1, acc => by
    rw [List.replicate_succ, List.foldl_cons, fold_tl a n, List.replicate_succ, List.flatten_cons, Array.toList_append, List.append_assoc]
theorem mul_S {F : List Nat} (hF : F.length = 20) : Txt.mul (S F) 75 = S (List.replicate 75 F).flatten := by
  unfold Txt.mul
  rw [if_neg (by decide), SX.S_len, hF, if_neg (by decide)]
  apply TL.ext_tl
  show ((List.replicate 75 (S F).cps).foldl (· ++ ·) #[]).toList = _
  rw [fold_tl] <;> rfl
theorem mulOk_S {F : List Nat} (hF : F.length = 20) : MulOk (S F) 75 := by
  unfold MulOk
  rw [SX.S_len, hF]
  exact ⟨by decide, fun _ _ => by decide, fun _ _ => by decide⟩
theorem rep_len (F : List Nat) : ∀ n : Nat, (List.replicate n F).flatten.length = n * F.length
  | 0 => by simp
  | n + 1 => by rw [List.replicate_succ, List.flatten_cons, List.length_append, rep_len F n, Nat.succ_mul, Nat.add_comm]
theorem rep_ok {F : List Nat} (h : F.all okA = true) : ∀ n : Nat, (List.replicate n F).flatten.all okA = true
  | 0 => rfl
  | n + 1 => by rw [List.replicate_succ, List.flatten_cons, List.all_append, h, rep_ok h n] <;> rfl
theorem rUpP {L : List Nat} {p : Nat} {H : Hp} {Q : VK} (hl : L.length ≤ sizeLine) (h : Q (.str (S (L.take (p + 1)))) H) : rSlS (.str (S L)) none (some (1 + (p : Int))) H Q := by
  rw [show (1 : Int) + (p : Int) = ((p + 1 : Nat) : Int) by omega]
  exact rUp hl h
theorem rFrP {L : List Nat} {p : Nat} {H : Hp} {Q : VK} (hl : L.length ≤ sizeLine) (h : Q (.str (S (L.drop (p + 1)))) H) : rSlS (.str (S L)) (some (1 + (p : Int))) none H Q := by
  rw [show (1 : Int) + (p : Int) = ((p + 1 : Nat) : Int) by omega]
  exact rFr hl h
theorem log_small {i : Int} (h : i.natAbs < 16) : i.natAbs.log2 < 1920 := Nat.lt_of_le_of_lt (Nat.log2_le_self _) (Nat.lt_trans h (by decide))
theorem fig_S {i : Nat} (h : i < 9) : Str.ofString (toString (1 + (i : Int))) = S [49 + i] := by
  rw [numS]
  congr 1
  match i, h with
  | 0, _ => decide +kernel
  | 1, _ => decide +kernel
  | 2, _ => decide +kernel
  | 3, _ => decide +kernel
  | 4, _ => decide +kernel
  | 5, _ => decide +kernel
  | 6, _ => decide +kernel
  | 7, _ => decide +kernel
  | 8, _ => decide +kernel
def rowB : List Str := [" ", " -", " (none) "]
def rowE : List Str := [")", " ())", "", " x"]
theorem rowB_ok : ∀ x ∈ rowB, ∃ M : List Nat, M.all okA = true ∧ M.length ≤ 10 ∧ x = S M := by
  intro x hx
  simp only [rowB, List.mem_cons, List.not_mem_nil, or_false] at hx
  rcases hx with rfl | rfl | rfl
  · exact ⟨[32], rfl, by decide, by decide +kernel⟩
  · exact ⟨[32, 45], rfl, by decide, by decide +kernel⟩
  · exact ⟨[32, 40, 110, 111, 110, 101, 41, 32], rfl, by decide, by decide +kernel⟩
theorem rowE_ok : ∀ x ∈ rowE, ∃ M : List Nat, M.all okA = true ∧ M.length ≤ 10 ∧ x = S M := by
  intro x hx
  simp only [rowE, List.mem_cons, List.not_mem_nil, or_false] at hx
  rcases hx with rfl | rfl | rfl | rfl
  · exact ⟨[41], rfl, by decide, by decide +kernel⟩
  · exact ⟨[32, 40, 41, 41], rfl, by decide, by decide +kernel⟩
  · exact ⟨[], rfl, by decide, by decide +kernel⟩
  · exact ⟨[32, 120], rfl, by decide, by decide +kernel⟩
section
variable {w : World} {K : PySem.W.Frag} {mg : Str → Option Value} {base : Heap}
def spGreat : Sp := fun vs H Q _ => ∃ (j : Addr) (B : List Nat), vs = [.ref j, .str (S B)] ∧ JarAt H j ∧ B.all okA = true ∧ B.length ≤ 100 ∧ ∀ H', Q (.bl true) H'
theorem scGa : FnScope ["jar", "base", "figures", "before", "behind", "place", "figure", "step"] ["jar", "base"] (defScope sGreat) := ⟨rfl, rfl, rfl, by decide +kernel, rfl, by decide +kernel, by decide +kernel⟩
def tFig : TE := tCB (fun xs H Q => ∃ i, xs = [.int i] ∧ i.natAbs.log2 < 1920 ∧ Q (.str (toString i)) H) (tCons (tOp (rI0 fun i j => .int (i + j)) (tC (.int 1)) (tCall spDraw [] E0 (tCons (tVar 0) (tCons (tC (.int 9)) tNil)))) tNil)
theorem ok_great {fd : FuncData} (F : FnG K "_law_great_agrees" sGreat fd) (ID : Id w K mg base 2 (He.ga K "_law_draw") ["jar", "many"] spDraw) (IP : Id w K mg base 3 (He.ga K "_law_pick") ["jar", "row"] (spPick K))
    (IA : Id w K mg base 33 (He.ga K "_law_agrees") ["text"] spAgrees) (T : Txt PG w K mg) :
    FnOk PG w K mg base CX0 34 (He.ga K "_law_great_agrees") fd ["jar", "base"] spGreat := by
  obtain ⟨fdD, GD, bD, kD⟩ := ID.ex
  obtain ⟨fdP, GP, bP, kP⟩ := IP.ex
  obtain ⟨fdA, GA, bA, kA⟩ := IA.ex
  have nd_ := scGa.nd
  refine F.ok scGa (fun vs H Q E h => ?_) (fun cdv A outer s H vs Q E hr h => ?_)
  · obtain ⟨j, B, rfl, _⟩ := h
    rfl
  · have hr2 : ∀ {n : Nat}, n ≤ 33 → Room n _ := fun {n} h => hr.mono h
    refine ⟨_, PSs.nox (
    pss_cons (ps_set (i := 2) nd_ rfl (Or.inl rfl) (pe_op op_mul_str (pe_join pe_str (pe_lc (own := [("step", 7)]) (g := gName 7) (tt := tYes) (te := tFig) rfl nd_ (pi_range1 rfl T.n_range (pa_cons pe_int pa_nil)) (blkOk_by (N := ["jar", "base", "figures", "before", "behind", "place", "figure", "step"]) (sc := defScope sGreat) (by decide +kernel)) (fun _ _ _ _ _ => pg_name (i := 7) nd_ rfl (Or.inl rfl)) (fun _ _ _ _ _ => pts_nil)
      (fun _ _ _ _ _ => by exact pe_callTy call_str_int (by rfl) T.n_str (by decide +kernel) (pa_cons (pe_op op_add pe_int (pe_call GD (hr2 (by decide)) rfl T.g_l_draw kD bD .nil pass0 (pa_cons (pv 0) (pa_cons pe_int pa_nil)))) pa_nil)))) pe_int)) <|
    pss_cons (ps_set (i := 3) nd_ rfl (Or.inl rfl) (pe_op op_add_str (pe_op op_add_str pe_str (pv 1)) (pe_call GP (hr2 (by decide)) rfl T.g_l_pick kP bP .nil pass0 (pa_cons (pv 0) (pa_cons (pe_lst (pa_cons pe_str (pa_cons pe_str (pa_cons pe_str pa_nil)))) pa_nil))))) <|
    pss_cons (ps_set (i := 4) nd_ rfl (Or.inl rfl) (pe_call GP (hr2 (by decide)) rfl T.g_l_pick kP bP .nil pass0 (pa_cons (pv 0) (pa_cons (pe_lst (pa_cons pe_str (pa_cons pe_str (pa_cons pe_str (pa_cons pe_str pa_nil))))) pa_nil)))) <|
    pss_cons (ps_set (i := 5) nd_ rfl (Or.inl rfl) (pe_op op_add pe_int (pe_call GD (hr2 (by decide)) rfl T.g_l_draw kD bD .nil pass0 (pa_cons (pv 0) (pa_cons pe_int pa_nil))))) <|
    pss_cons (ps_set (i := 6) nd_ rfl (Or.inl rfl) (pe_callTy call_str_int (by rfl) T.n_str (by decide +kernel) (pa_cons (pe_op op_add pe_int (pe_call GD (hr2 (by decide)) rfl T.g_l_draw kD bD .nil pass0 (pa_cons (pv 0) (pa_cons pe_int pa_nil)))) pa_nil))) <|
    pss_cons (ps_if (PW.pt (pw_or (pt_not (pt_val (pe_call GA hr rfl T.g_l_agrees kA bA .nil pass0 (pa_cons (pe_op op_add_str (pe_op op_add_str (pv 3) (pv 2)) (pv 4)) pa_nil))))
        (pw_or1 (pt_not (pt_val (pe_call GA hr rfl T.g_l_agrees kA bA .nil pass0 (pa_cons (pe_op op_add_str (pe_op op_add_str (pv 3) (pe_slice sl_str (pv 2) (po_some pe_int) po_none)) (pv 4)) pa_nil))))))) (pss_one (ps_ret pe_bl)) pss_nil) <|
    pss_one (ps_ret (pe_call GA hr rfl T.g_l_agrees kA bA .nil pass0 (pa_cons (pe_op op_add_str (pe_op op_add_str (pe_op op_add_str (pe_op op_add_str (pv 3) (pe_slice sl_str (pv 2) po_none (po_some (pv 5)))) (pv 6)) (pe_slice sl_str (pv 2) (po_some (pv 5)) po_none)) (pv 4)) pa_nil)))), ?_⟩
    obtain ⟨j, B, rfl, hj, hB, hl, k⟩ := h
    have sz : (100000 : Nat) < sizeLine := by rw [sizeLine_eq]; decide
    refine ⟨⟨_, rfl⟩, 20, rfl, by decide, by decide, fun D nD => ?_⟩
    have njD : j ≠ D := hj.ne nD
    refine lc_range (n := 20) (fun i H' => KeepB H H' j ∧ JarAt H' j ∧ ∃ F : List Nat, H' D = some (.lst (F.map sgV)) ∧ F.length = i ∧ F.all okA = true) ?_ ?_ ?_
    · exact ⟨KeepB.same (SameN nD), hj.upd nD, [], upd_same, rfl, rfl⟩
    · rintro i H1 hi ⟨kb1, hj1, F, hD1, hF, hok⟩
      refine ⟨rfl, ?_⟩
      apply yes
      refine ⟨_, rfl, j, 9, rfl, hj1, by decide, by decide, fun n hn H2 kb2 hj2 => ⟨1, _, rfl, rfl, _, rfl, ?_, ?_⟩⟩
      · exact log_small (by omega)
      · have hn9 : n < 9 := by omega
        have hD2 := kb2 _ _ hD1 (Ne.symm njD)
        refine ⟨_, hD2, by rw [List.length_map]; omega, (kb1.trans kb2).new nD, ?_, F ++ [49 + n], ?_, by rw [List.length_append, hF] <;> rfl, ?_⟩
        · obtain ⟨x, n', r, q⟩ := hj2
          exact ⟨x, n', r, by rw [upd_ne njD]; exact q⟩
        · rw [upd_same, List.map_append]
          show some (HO.lst (F.map sgV ++ [V.str (Str.ofString (toString (1 + (n : Int))))])) = _
          rw [fig_S hn9] <;> rfl
        · rw [List.all_append, hok, List.all_cons]
          have : okA (49 + n) = true := okA_iff.mpr (.inr (by omega))
          rw [this] <;> rfl
    · rintro H1 ⟨kb1, hj1, F, hD1, hF, hok⟩
      refine ⟨_, D, F.map (fun c => S [c]), rfl, rfl, .inl (SqL.of (by rw [hD1, List.map_map] <;> rfl)), ?_, ?_⟩
      · rw [sum_one, List.length_map]
        show F.length + F.length * 0 ≤ 16777216
        omega
      · rw [lit_e, join_sg]
        refine ⟨_, _, rfl, rfl, mulOk_S hF, ?_⟩
        rw [mul_S hF]
        have hRl : (List.replicate 75 F).flatten.length = 1500 := by rw [rep_len, hF]
        have hRo := rep_ok hok 75
        generalize (List.replicate 75 F).flatten = R at hRl hRo ⊢
        clear hok hF hD1
        refine ⟨_, rfl, ?_⟩
        rw [lit_op]
        refine ⟨_, _, rfl, rfl, by rw [SX.S_len, SX.S_len]; rw [List.length_singleton]; omega, ?_⟩
        rw [S_app]
        refine ⟨_, rfl, by show 3 ≤ sizeLine; omega, fun q nq => ?_⟩
        refine ⟨j, q, rowB.map V.str, rfl, hj1.upd nq, upd_same, hj1.ne nq, List.cons_ne_nil _ _, by show 3 < 1000; decide, fun x hx H2 kb2 hj2 => ?_⟩
        obtain ⟨z, hz, rfl⟩ := List.mem_map.mp hx
        obtain ⟨M1, hM1, hl1, rfl⟩ := rowB_ok z hz
        clear hx hz
        have hPo : (([40] ++ B) ++ M1).all okA = true := by rw [List.all_append, List.all_append, hB, hM1] <;> rfl
        have hPl : (([40] ++ B) ++ M1).length ≤ 111 := by simp only [List.length_append, List.length_singleton]; omega
        refine ⟨_, _, rfl, rfl, by rw [SX.S_len, SX.S_len]; simp only [List.length_append, List.length_singleton]; omega, ?_⟩
        rw [S_app]
        generalize ([40] ++ B) ++ M1 = P at hPo hPl ⊢
        refine ⟨_, rfl, by show 4 ≤ sizeLine; omega, fun q2 nq2 => ?_⟩
        refine ⟨j, q2, rowE.map V.str, rfl, hj2.upd nq2, upd_same, hj2.ne nq2, List.cons_ne_nil _ _, by show 4 < 1000; decide, fun x hx H3 kb3 hj3 => ?_⟩
        obtain ⟨z, hz, rfl⟩ := List.mem_map.mp hx
        obtain ⟨M2, hM2, hl2, rfl⟩ := rowE_ok z hz
        clear hx hz
        refine ⟨_, rfl, j, 1500, rfl, hj3, by decide, by decide, fun p hp H4 kb4 hj4 => ⟨_, _, rfl, rfl, ?_⟩⟩
        refine ⟨_, rfl, j, 9, rfl, hj4, by decide, by decide, fun n hn H5 kb5 hj5 => ⟨_, _, rfl, rfl, _, rfl, log_small (by omega), ?_⟩⟩
        have hn9 : n < 9 := by omega
        have hfo : okA (49 + n) = true := okA_iff.mpr (.inr (by omega))
        refine ⟨_, rfl, _, rfl, ?_⟩
        refine ⟨_, _, rfl, rfl, by rw [SX.S_len, SX.S_len]; omega, ?_⟩
        rw [S_app]
        refine ⟨_, rfl, ?_⟩
        refine ⟨_, _, rfl, rfl, by rw [SX.S_len, SX.S_len]; rw [List.length_append]; omega, ?_⟩
        rw [S_app]
        refine ⟨_, rfl, by rw [List.all_append, List.all_append, hPo, hRo, hM2] <;> rfl, by simp only [List.length_append]; omega, fun H6 s6 => ⟨true, rfl, ?_⟩⟩
        show if (!true) = true then _ else _
        refine iteF ⟨_, rfl, _, rfl, _, rfl, ?_⟩
        apply np
        apply rFr (p := 1) (by omega)
        refine ⟨_, _, rfl, rfl, by rw [SX.S_len, SX.S_len]; rw [List.length_drop]; omega, ?_⟩
        rw [S_app]
        refine ⟨_, rfl, ?_⟩
        refine ⟨_, _, rfl, rfl, by rw [SX.S_len, SX.S_len]; rw [List.length_append, List.length_drop]; omega, ?_⟩
        rw [S_app]
        refine ⟨_, rfl, by rw [List.all_append, List.all_append, hPo, okA_drop hRo 1, hM2] <;> rfl, by simp only [List.length_append, List.length_drop]; omega, fun H7 s7 => ⟨true, rfl, ?_⟩⟩
        show if (!true) = true then _ else _
        refine iteF ⟨_, rfl, _, rfl, _, rfl, _, rfl, ?_⟩
        apply rUpP (by omega)
        refine ⟨_, _, rfl, rfl, by rw [SX.S_len, SX.S_len]; rw [List.length_take]; omega, ?_⟩
        rw [S_app]
        refine ⟨_, rfl, ?_⟩
        show ∃ i j, V.str (S (P ++ List.take (p + 1) R)) = .str i ∧ V.str (Str.ofString (toString (1 + (n : Int)))) = .str j ∧ _
        rw [fig_S hn9]
        refine ⟨_, _, rfl, rfl, by rw [SX.S_len, SX.S_len]; rw [List.length_append, List.length_take, List.length_singleton]; omega, ?_⟩
        rw [S_app]
        refine ⟨_, rfl, _, rfl, _, rfl, ?_⟩
        apply np
        apply rFrP (by omega)
        refine ⟨_, _, rfl, rfl, by rw [SX.S_len, SX.S_len]; simp only [List.length_append, List.length_take, List.length_drop, List.length_singleton]; omega, ?_⟩
        rw [S_app]
        refine ⟨_, rfl, ?_⟩
        refine ⟨_, _, rfl, rfl, by rw [SX.S_len, SX.S_len]; simp only [List.length_append, List.length_take, List.length_drop, List.length_singleton]; omega, ?_⟩
        rw [S_app]
        refine ⟨_, rfl, by simp only [List.all_append, List.all_cons, List.all_nil, hPo, okA_take hRo, okA_drop hRo, hM2, hfo, Bool.and_true], by simp only [List.length_append, List.length_take, List.length_drop, List.length_singleton]; omega, fun H8 s8 => k H8⟩
end
end K80

set_option Elab.async false
set_option linter.all false
set_option maxRecDepth 100000
set_option maxHeartbeats 4000000
/-! Y16 (k80): law. -/
namespace K80
open PySem PySem.Spec PyProof.Rows L2 DD
theorem SqLs {K : PySem.W.Frag} {H H' : Hp} {a : Addr} {xs : List V} (h : SqL K H a xs) (s : Same H H') : SqL K H' a xs := by
  rcases h with (h | ⟨o, h⟩) | h
  · exact .inl (.inl (s _ _ h))
  · exact .inl (.inr ⟨o, s _ _ h⟩)
  · exact .inr h
theorem tjK {A B : Hp} {j : Addr} (ja : JarAt A j) (kb : KeepB A B j) : ∀ a xs, A a = some (.tup xs) → B a = some (.tup xs) := fun a xs e => kb a _ e fun z => by
  obtain ⟨_, _, _, q⟩ := ja
  rw [z, q] at e
  cases e
theorem lit_none : ("none" : Str) = S [110, 111, 110, 101] := by decide +kernel
section
variable {w : World} {K : PySem.W.Frag} {mg : Str → Option Value} {base : Heap}
def spLaw (K : PySem.W.Frag) : Sp := fun vs H Q _ => ∃ (a : Addr) (ns : List Int), vs = [.ref a] ∧ SqL K H a (ns.map .int) ∧ ns.length ≤ 1000000 ∧ ∀ H', Q (.bl true) H'
theorem scLw : FnScope ["script", "jar", "more", "value", "depth", "base", "step", "once"] ["script"] (defScope sLaw) := ⟨rfl, rfl, rfl, by decide +kernel, rfl, by decide +kernel, by decide +kernel⟩
theorem ok_law {fd : FuncData} (F : FnG K "law" sLaw fd) (IJ : Id w K mg base 1 (He.ga K "_law_jar") ["script", "place"] (spJar K)) (IG : Id w K mg base 6 (He.ga K "_law_grown") ["jar"] spGrown)
    (IA : Id w K mg base 33 (He.ga K "_law_agrees") ["text"] spAgrees) (ID : Id w K mg base 2 (He.ga K "_law_draw") ["jar", "many"] spDraw)
    (IDt : Id w K mg base 2 (He.ga K "_law_data_text") ["value"] spDataT) (IWp : Id w K mg base 5 (He.ga K "_law_wrapped") ["jar", "value", "turns"] spWrapped)
    (ISp : Id w K mg base 5 (He.ga K "_law_spoilt") ["jar", "text"] spSpoilt) (IGa : Id w K mg base 34 (He.ga K "_law_great_agrees") ["jar", "base"] spGreat)
    (T : Txt PG w K mg) : FnOk PG w K mg base CX0 35 (He.ga K "law") fd ["script"] (spLaw K) := by
  obtain ⟨fJ, GJ, bJ, kJ⟩ := IJ.ex
  obtain ⟨fG, GG, bG, kG⟩ := IG.ex
  obtain ⟨fA, GA, bA, kA⟩ := IA.ex
  obtain ⟨fD, GD, bD, kD⟩ := ID.ex
  obtain ⟨fDt, GDt, bDt, kDt⟩ := IDt.ex
  obtain ⟨fWp, GWp, bWp, kWp⟩ := IWp.ex
  obtain ⟨fSp, GSp, bSp, kSp⟩ := ISp.ex
  obtain ⟨fGa, GGa, bGa, kGa⟩ := IGa.ex
  have nd_ := scLw.nd
  refine F.ok scLw (fun vs H Q E h => ?_) (fun cdv A outer s H vs Q E hr h => ?_)
  · obtain ⟨a, ns, rfl, _⟩ := h
    rfl
  · have hr2 : ∀ {n : Nat}, n ≤ 34 → Room n _ := fun {n} h => hr.mono h
    refine ⟨_, PSs.nox (
      pss_cons (ps_set (i := 1) nd_ rfl (Or.inl rfl) (pe_call GJ (hr2 (by decide)) rfl T.g_l_jar kJ bJ .nil pass0 (pa_cons (pv 0) (pa_cons pe_int pa_nil)))) <|
      pss_cons (ps_set (i := 2) nd_ rfl (Or.inl rfl) (pe_call GJ (hr2 (by decide)) rfl T.g_l_jar kJ bJ .nil pass0 (pa_cons (pv 0) (pa_cons pe_int pa_nil)))) <|
      pss_cons (ps_asg (pe_call GG (hr2 (by decide)) rfl T.g_l_grown kG bG .nil pass0 (pa_cons (pv 1) pa_nil)) (pg_tup rfl (pgs_cons (pg_name (i := 3) nd_ rfl (Or.inl rfl)) (pgs_cons (pg_name (i := 4) nd_ rfl (Or.inl rfl)) pgs_nil)))) <|
      C8.pss_cut (ps_if (pt_cmpR op_eq (pe_call GD (hr2 (by decide)) rfl T.g_l_draw kD bD .nil pass0 (pa_cons (pv 2) (pa_cons pe_int pa_nil))) pe_int (nomark _))
        (pss_one (ps_set (i := 3) nd_ rfl (Or.inl rfl) (pe_call GWp (hr2 (by decide)) rfl T.g_l_wrapped kWp bWp .nil pass0 (pa_cons (pv 2) (pa_cons (pv 3) (pa_cons (pe_op op_sub (pe_op op_add pe_int (pe_call GD (hr2 (by decide)) rfl T.g_l_draw kD bD .nil pass0 (pa_cons (pv 2) (pa_cons pe_int pa_nil)))) (pv 4)) pa_nil)))))) pss_nil) <|
      pss_cons (ps_set (i := 5) nd_ rfl (Or.inl rfl) (pe_call GDt (hr2 (by decide)) rfl T.g_l_data_text kDt bDt .nil pass0 (pa_cons (pv 3) pa_nil))) <|
      pss_cons (ps_if (PW.pt (pw_or (pt_not (pt_val (pe_call GA (hr2 (by decide)) rfl T.g_l_agrees kA bA .nil pass0 (pa_cons (pv 5) pa_nil))))
        (pw_or1 (pt_not (pt_val (pe_call GA (hr2 (by decide)) rfl T.g_l_agrees kA bA .nil pass0 (pa_cons pe_str pa_nil))))))) (pss_one (ps_ret pe_bl)) pss_nil) <|
      pss_cons (ps_for PassesOwn.never rfl (pi_range1 rfl T.n_range (pa_cons pe_int pa_nil)) (pg_name (i := 6) nd_ rfl (Or.inl rfl)) <|
        pss_cons (ps_set (i := 7) nd_ rfl (Or.inl rfl) (pe_call GSp (hr2 (by decide)) rfl T.g_l_spoilt kSp bSp .nil pass0 (pa_cons (pv 2) (pa_cons (pv 5) pa_nil)))) <|
        pss_cons (ps_if (pt_not (pt_val (pe_call GA (hr2 (by decide)) rfl T.g_l_agrees kA bA .nil pass0 (pa_cons (pv 7) pa_nil)))) (pss_one (ps_ret pe_bl)) pss_nil) <|
        pss_one (ps_if (PW.pt (pw_and (pt_cmpR op_lt (pv 6) pe_int (nomark _)) (pw_and1 (pt_not (pt_val (pe_call GA (hr2 (by decide)) rfl T.g_l_agrees kA bA .nil pass0 (pa_cons (pe_call GSp (hr2 (by decide)) rfl T.g_l_spoilt kSp bSp .nil pass0 (pa_cons (pv 2) (pa_cons (pv 7) pa_nil))) pa_nil)))))))
          (pss_one (ps_ret pe_bl)) pss_nil)) <|
      pss_one (ps_ret (pe_or (pe_cmpR op_gt (pe_call GD (hr2 (by decide)) rfl T.g_l_draw kD bD .nil pass0 (pa_cons (pv 2) (pa_cons pe_int pa_nil))) pe_int (nomark _))
        (pe_one (pe_call GGa hr rfl T.g_l_great_agrees kGa bGa .nil pass0 (pa_cons (pv 2) (pa_cons pe_str pa_nil))))))), ?_⟩
    obtain ⟨a, ns, rfl, ha, hns, k⟩ := h
    have sz : (100000 : Nat) < sizeLine := by rw [sizeLine_eq]; decide
    refine ⟨_, rfl, a, ns, 0, rfl, ha, fun j1 H1 s1 n1 hj1 => ?_⟩
    refine ⟨_, rfl, a, ns, 1, rfl, SqLs ha s1, fun j2 H2 s2 n2 hj2 => ?_⟩
    have hj12 := hj1.same s2
    have n12 : j1 ≠ j2 := hj1.ne n2
    refine ⟨_, rfl, j1, rfl, hj12, fun d v g H3 hg hd hdp hnd hga kb3 hj3 => ?_⟩
    have hj23 : JarAt H3 j2 := by
      obtain ⟨x, n, r, q⟩ := hj2
      exact ⟨x, n, r, kb3 _ _ q (Ne.symm n12)⟩
    refine ⟨g, _, rfl, SqT.of hga, rfl, _, _, rfl, _, _, rfl, rfl, ?_⟩
    clear hj3 kb3 hj12 ha hga
    refine ⟨fun σ H' => ∃ (d' : D) (v' : V), σ = [some (.ref a), some (.ref j1), some (.ref j2), some v', some (.int ((dp d : Nat) : Int)), none, none, none] ∧ DD.Ty d' ∧ DAt H' d' v' ∧ nd d' ≤ 64 ∧ JarAt H' j2, ?_, ?_⟩
    · refine ⟨_, rfl, j2, 3, rfl, hj23, by decide, by decide, fun n hn H4 kb4 hj4 => ⟨rfl, _, rfl, ?_⟩⟩
      have hd4 : DAt H4 d v := DAt.mono (tjK hj23 kb4) hd
      refine iteC (fun _ => ?_) (fun _ => ⟨d, v, rfl, hg, hd4, by omega, hj4⟩)
      refine ⟨_, rfl, _, rfl, _, rfl, j2, 2, rfl, hj4, by decide, by decide, fun n' hn' H5 kb5 hj5 => ⟨_, _, rfl, rfl, _, rfl, _, _, rfl, rfl, ?_⟩⟩
      have hd5 : DAt H5 d v := DAt.mono (tjK hj4 kb5) hd4
      refine ⟨j2, d, v, 24 + n' - dp d, congrArg (fun z => [V.ref j2, v, V.int z]) (by omega), hj5, hd5, hg, by omega, fun d' v' H6 hg6 hd6 hp6 hn6 kb6 hj6 => ⟨d', v', rfl, hg6, hd6, by omega, hj6⟩⟩
    · rintro _ H4 ⟨d', v', rfl, hg', hd', hn', hj4⟩
      have htl := Ty_len d' hg'
      have hto := Ty_okA d' hg'
      refine ⟨_, rfl, d', v', rfl, hd', Ty_DB d' hg', by omega, by omega, fun H5 s5 => ?_⟩
      have hj5 := hj4.same s5
      have hBl : (txt d').length ≤ 2815 := by omega
      generalize txt d' = B at htl hto hBl ⊢
      refine ⟨_, rfl, B, rfl, hto, by omega, fun H6 s6 => ⟨true, rfl, ?_⟩⟩
      show if (!true) = true then _ else _
      refine iteF ⟨[], congrArg (fun z => [V.str z]) lit_e, rfl, by decide, fun H7 s7 => ⟨true, rfl, ?_⟩⟩
      show if (!true) = true then _ else _
      refine iteF ⟨7, rfl, by decide, by decide, ?_⟩
      refine for_range (n := 7) (fun i σ H' => JarAt H' j2 ∧ ∃ x y, σ = [some (.ref a), some (.ref j1), some (.ref j2), some v', some (.int ((dp d : Nat) : Int)), some (.str (S B)), x, y]) ⟨(hj5.same s6).same s7, _, _, rfl⟩ ?_ ?_
      · rintro i _ H8 hi ⟨hj8, x, y, rfl⟩
        refine ⟨_, rfl, _, rfl, j2, B, rfl, hj8, hto, by omega, fun M H9 hM hMl kb9 hj9 => ?_⟩
        refine ⟨_, rfl, M, rfl, hM, by omega, fun H10 s10 => ⟨true, rfl, ?_⟩⟩
        show if (!true) = true then _ else _
        refine iteF ⟨_, rfl, _, _, rfl, rfl, _, rfl, ?_⟩
        have hj10 := hj9.same s10
        refine iteC (fun _ => ?_) (fun _ => ?_)
        · refine ⟨_, rfl, _, rfl, j2, M, rfl, hj10, hM, by omega, fun M2 H11 hM2 hMl2 kb11 hj11 => ?_⟩
          refine ⟨M2, rfl, hM2, by omega, fun H12 s12 => ⟨true, rfl, ?_⟩⟩
          show if (!true) = true then _ else _
          exact iteF ⟨hj11.same s12, _, _, rfl⟩
        · exact ⟨hj10, _, _, rfl⟩
      · rintro _ H8 ⟨hj8, x, y, rfl⟩
        refine ⟨_, rfl, j2, 5, rfl, hj8, by decide, by decide, fun n hn H9 kb9 hj9 => ⟨_, _, rfl, rfl, _, rfl, ?_⟩⟩
        refine iteC (fun h0 => ?_) (fun h0 => ?_)
        · exact k H9
        · exact ⟨_, rfl, j2, [110, 111, 110, 101], congrArg (fun z => [V.ref j2, V.str z]) lit_none, hj9, rfl, by decide, fun H10 => k H10⟩
end
end K80

set_option Elab.async false
set_option linter.all false
set_option maxRecDepth 100000
set_option maxHeartbeats 4000000
/-! Y17 (k80): the end. -/
namespace K80
open PySem PySem.Spec PyProof.Rows L2 DD
section
variable {w : World} {K : PySem.W.Frag} {mg : Str → Option Value}
theorem facts {h : Heap} {f : Addr} (X : K.In h) (Gm : h.Ns mainGlobals mg) (hfa : mg ("law" : Str) = some (.ref f)) (c : He.SaysQ fa fn fc ts ex file w K) :
    ∃ fd : FuncData, (∀ (s : Shared) (v : Value), BindsTo s fd ⟨[v], []⟩ [("script", v)]) ∧ ∀ base : Heap, K.In base → base.Ns mainGlobals mg → FnOk PG w K mg base CX0 35 f fd ["script"] (spLaw K) := by
  have T := txt_of (P := PG) X Gm c
  have cd := He.SaysQ.d c
  have rd : Rdr K := {
    init := cd.def_ 0 (d := dM "__init__" "DataReader.__init__" sInit) rfl
    sign := cd.def_ 1 (d := dM "sign" "DataReader.sign" sSign) rfl
    refuse := cd.def_ 2 (d := dM "refuse" "DataReader.refuse" sRefuse) rfl
    expect := cd.def_ 3 (d := dM "expect" "DataReader.expect" sExpect) rfl
    word := cd.def_ 4 (d := dM "read_word" "DataReader.read_word" sRWord) rfl
    whole := cd.def_ 5 (d := dM "read_whole" "DataReader.read_whole" sRWhole) rfl
    text := cd.def_ 6 (d := dM "read_text" "DataReader.read_text" sRText) rfl
    atom := cd.def_ 7 (d := dM "read_atom" "DataReader.read_atom" sRAtom) rfl
    nested := cd.def_ 8 (d := dM "read_nested" "DataReader.read_nested" sRNested) rfl
    read := cd.def_ 9 (d := dG "read_data" sRead) rfl }
  obtain ⟨f9, F9⟩ := rd.read
  obtain ⟨f10, F10⟩ : ∃ fd, FnG K "_law_mix" sMix fd := cd.def_ 10 (d := dG "_law_mix" sMix) rfl
  obtain ⟨f11, F11⟩ : ∃ fd, FnG K "_law_jar" sJar fd := cd.def_ 11 (d := dG "_law_jar" sJar) rfl
  obtain ⟨f12, F12⟩ : ∃ fd, FnG K "_law_draw" sDraw fd := cd.def_ 12 (d := dG "_law_draw" sDraw) rfl
  obtain ⟨f13, F13⟩ : ∃ fd, FnG K "_law_between" sBetween fd := cd.def_ 13 (d := dG "_law_between" sBetween) rfl
  obtain ⟨f14, F14⟩ : ∃ fd, FnG K "_law_pick" sPick fd := cd.def_ 14 (d := dG "_law_pick" sPick) rfl
  obtain ⟨f15, F15⟩ : ∃ fd, FnG K "_law_atom_text" sAtomT fd := cd.def_ 15 (d := dG "_law_atom_text" sAtomT) rfl
  obtain ⟨f16, F16⟩ : ∃ fd, FnG K "_law_data_text" sDataT fd := cd.def_ 16 (d := dG "_law_data_text" sDataT) rfl
  obtain ⟨f17, F17⟩ : ∃ fd, FnG K "_law_begun_value" sBegun fd := cd.def_ 17 (d := dG "_law_begun_value" sBegun) rfl
  obtain ⟨f18, F18⟩ : ∃ fd, FnG K "_law_in_text" sInText fd := cd.def_ 18 (d := dG "_law_in_text" sInText) rfl
  obtain ⟨f19, F19⟩ : ∃ fd, FnG K "_law_in_number" sInNum fd := cd.def_ 19 (d := dG "_law_in_number" sInNum) rfl
  obtain ⟨f20, F20⟩ : ∃ fd, FnG K "_law_behind_value" sBehind fd := cd.def_ 20 (d := dG "_law_behind_value" sBehind) rfl
  obtain ⟨f21, F21⟩ : ∃ fd, FnG K "_law_read" sLRead fd := cd.def_ 21 (d := dG "_law_read" sLRead) rfl
  obtain ⟨f22, F22⟩ : ∃ fd, FnG K "_law_letters" sLetters fd := cd.def_ 22 (d := dG "_law_letters" sLetters) rfl
  obtain ⟨f23, F23⟩ : ∃ fd, FnG K "_law_atom" sAtom fd := cd.def_ 23 (d := dG "_law_atom" sAtom) rfl
  obtain ⟨f24, F24⟩ : ∃ fd, FnG K "_law_grown" sGrown fd := cd.def_ 24 (d := dG "_law_grown" sGrown) rfl
  obtain ⟨f25, F25⟩ : ∃ fd, FnG K "_law_wrapped" sWrapped fd := cd.def_ 25 (d := dG "_law_wrapped" sWrapped) rfl
  obtain ⟨f26, F26⟩ : ∃ fd, FnG K "_law_spoilt" sSpoilt fd := cd.def_ 26 (d := dG "_law_spoilt" sSpoilt) rfl
  obtain ⟨f27, F27⟩ : ∃ fd, FnG K "_law_agrees" sAgrees fd := cd.def_ 27 (d := dG "_law_agrees" sAgrees) rfl
  obtain ⟨f28, F28⟩ : ∃ fd, FnG K "_law_great_agrees" sGreat fd := cd.def_ 28 (d := dG "_law_great_agrees" sGreat) rfl
  obtain ⟨f29, F29⟩ : ∃ fd, FnG K "law" sLaw fd := cd.def_ 29 (d := dG "law" sLaw) rfl
  have e := hfa.symm.trans T.g_law
  cases e
  have b := FunD.bindsA (ps := ["script"]) F29 fun _ _ _ _ _ _ us hl => match us, hl with | [_], _ => rfl
  refine ⟨f29, fun s v => b s [v] rfl, fun base _ _ => ?_⟩
  have iR : Ix w K mg base 32 (He.ga K "read_data") ["text"] (spRead K) := ⟨_, ok_read rd F9 T c, F9.bindsN fun _ _ _ _ _ _ us hl => match us, hl with | [_], _ => rfl, F9.kp⟩
  have iJ : Id w K mg base 1 (He.ga K "_law_jar") ["script", "place"] (spJar K) := ⟨_, ok_jar F11 T, F11.bindsN fun _ _ _ _ _ _ us hl => match us, hl with | [_, _], _ => rfl, F11.kp⟩
  have iD : Id w K mg base 2 (He.ga K "_law_draw") ["jar", "many"] spDraw := ⟨_, ok_draw F12 F10 T, F12.bindsN fun _ _ _ _ _ _ us hl => match us, hl with | [_, _], _ => rfl, F12.kp⟩
  have iB : Id w K mg base 3 (He.ga K "_law_between") ["jar", "low", "high"] spBetween := ⟨_, ok_between F13 iD T, F13.bindsN fun _ _ _ _ _ _ us hl => match us, hl with | [_, _, _], _ => rfl, F13.kp⟩
  have iP : Id w K mg base 3 (He.ga K "_law_pick") ["jar", "row"] (spPick K) := ⟨_, ok_pick F14 iD T, F14.bindsN fun _ _ _ _ _ _ us hl => match us, hl with | [_, _], _ => rfl, F14.kp⟩
  have iAT : Id w K mg base 1 (He.ga K "_law_atom_text") ["thing"] spAtomT := ⟨_, ok_atomT F15 T, F15.bindsN fun _ _ _ _ _ _ us hl => match us, hl with | [_], _ => rfl, F15.kp⟩
  have iDT : Id w K mg base 2 (He.ga K "_law_data_text") ["value"] spDataT := ⟨_, ok_dataT F16 iAT T, F16.bindsN fun _ _ _ _ _ _ us hl => match us, hl with | [_], _ => rfl, F16.kp⟩
  have iBg : Id w K mg base 1 (He.ga K "_law_begun_value") ["stack", "sign", "mode"] spBegun := ⟨_, ok_begun F17 T, F17.bindsN fun _ _ _ _ _ _ us hl => match us, hl with | [_, _, _], _ => rfl, F17.kp⟩
  have iIt : Id w K mg base 1 (He.ga K "_law_in_text") ["mode", "sign", "got"] spInText := ⟨_, ok_inText F18, F18.bindsN fun _ _ _ _ _ _ us hl => match us, hl with | [_, _, _], _ => rfl, F18.kp⟩
  have iIn : Id w K mg base 1 (He.ga K "_law_in_number") ["sign", "got", "began"] spInNum := ⟨_, ok_inNum F19 T, F19.bindsN fun _ _ _ _ _ _ us hl => match us, hl with | [_, _, _], _ => rfl, F19.kp⟩
  have iBh : Id w K mg base 1 (He.ga K "_law_behind_value") ["stack", "sign"] spBehind := ⟨_, ok_behind F20 T, F20.bindsN fun _ _ _ _ _ _ us hl => match us, hl with | [_, _], _ => rfl, F20.kp⟩
  have iLr : Id w K mg base 2 (He.ga K "_law_read") ["text"] spLRead := ⟨_, ok_lread F21 iIn iIt iBh iBg T, F21.bindsN fun _ _ _ _ _ _ us hl => match us, hl with | [_], _ => rfl, F21.kp⟩
  have iL : Id w K mg base 4 (He.ga K "_law_letters") ["jar"] spLetters := ⟨_, ok_letters F22 iD iP T, F22.bindsN fun _ _ _ _ _ _ us hl => match us, hl with | [_], _ => rfl, F22.kp⟩
  have iA : Id w K mg base 5 (He.ga K "_law_atom") ["jar"] spAtom := ⟨_, ok_atom' F23 iD iP iL iB T, F23.bindsN fun _ _ _ _ _ _ us hl => match us, hl with | [_], _ => rfl, F23.kp⟩
  have iG : Id w K mg base 6 (He.ga K "_law_grown") ["jar"] spGrown := ⟨_, ok_grown F24 iD iA T, F24.bindsN fun _ _ _ _ _ _ us hl => match us, hl with | [_], _ => rfl, F24.kp⟩
  have iWp : Id w K mg base 5 (He.ga K "_law_wrapped") ["jar", "value", "turns"] spWrapped := ⟨_, ok_wrapped F25 iP T, F25.bindsN fun _ _ _ _ _ _ us hl => match us, hl with | [_, _, _], _ => rfl, F25.kp⟩
  have iSp : Id w K mg base 5 (He.ga K "_law_spoilt") ["jar", "text"] spSpoilt := ⟨_, ok_spoilt F26 iD T, F26.bindsN fun _ _ _ _ _ _ us hl => match us, hl with | [_, _], _ => rfl, F26.kp⟩
  have iAg : Id w K mg base 33 (He.ga K "_law_agrees") ["text"] spAgrees := ⟨_, ok_agrees F27 iLr iR iDT T, F27.bindsN fun _ _ _ _ _ _ us hl => match us, hl with | [_], _ => rfl, F27.kp⟩
  have iGa : Id w K mg base 34 (He.ga K "_law_great_agrees") ["jar", "base"] spGreat := ⟨_, ok_great F28 iD iP iAg T, F28.bindsN fun _ _ _ _ _ _ us hl => match us, hl with | [_, _], _ => rfl, F28.kp⟩
  exact ok_law F29 iJ iG iAg iD iDT iWp iSp iGa T
end
end K80
open PySem PySem.W PySem.Calls PyProof.Rows
theorem PySem.Challenge.cw_holdorslip_k80_data_first_wrong_sign_holds : PySem.Challenge.rw_holdorslip_k80_data_first_wrong_sign.Holds := by
  w_on; o_law
  refine HandSHeadRun.head_any (r := OpenLaw.row PySem.Challenge.rw_holdorslip_k80_data_first_wrong_sign) (q := view (OpenLaw.row PySem.Challenge.rw_holdorslip_k80_data_first_wrong_sign).prog [31]) (H := K80.hk) (ob := K80.ob) (M := 3000) (loose := K80.names) (d := HandSHeadRun.topDef (OpenLaw.row PySem.Challenge.rw_holdorslip_k80_data_first_wrong_sign).prog 31) (kwd := []) K80.ob_eq
    (by kernel_rfl) (fun s => by kernel_rfl) K80.run (by kernel_rfl) (by kernel_rfl) (by kernel_rfl) (by rfl) (by first | assumption | decide +kernel) (by decide +kernel) ⟨rfl, rfl, rfl, rfl, rfl, by decide +kernel⟩ ?hw ?hc
  case hw => w_witness2
  case hc =>
    refine L2.walk_ofE (l := PySem.Challenge.rw_holdorslip_k80_data_first_wrong_sign) (n := 63) (k := 35) (x := "script") (CX := L2.CX0) rfl (by decide) (by kernel_rfl) ⟨rfl, by decide, by decide⟩ ?F (fun _ _ _ _ z => z)
    intro w mg fa h Y G hmg0
    obtain ⟨K, KX, c⟩ := Y
    have hmg : mg ("law" : PySem.Str) = some (.ref fa) := by
      have e : (HandSHeadRun.topDef (OpenLaw.row PySem.Challenge.rw_holdorslip_k80_data_first_wrong_sign).prog 31).name = ("law" : PySem.Str) := by kernel_rfl
      rw [← e]
      exact hmg0
    obtain ⟨fd, hb, hF⟩ := K80.facts (w := w) KX G hmg c
    exact ⟨K, fd, K80.spLaw K, KX, hb, fun H a ns hl _ hS => ⟨a, ns, rfl, hS, Nat.le_trans hl (by decide), fun _ => rfl⟩, hF⟩

