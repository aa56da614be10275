import PyProof.Rows.All
import HandS.ExcInit
import HandS.WordsExc
import KE.KExcSuper
import Wide.All
import OpenK.AllK
import Wide.FinOn
import HandS.ForMost
import HandS.TupMul
import PyProof.StrOps2
import HandS.Text
import HandS.Codes
import HandS.Replace
import HandS.ForExc
import HandS.CallSlots
import HandS.Flow
import HandS.TupAny
import HandS.List
import HandS.TupLe
import KE.DataEq
import HandS.RaiseMore
import HandS.IsInst
import HandS.Zip
import HandS.ExcField
import KE.KExcIs
import HandS.More
import KE.GoesEnum
import KE.GoesZip
import HandS.Rev
import HandS.RevRange
import HandS.Style
import HandS.Conv
import HandS.Lambda
import HandS.Comp
import HandS.EndTab
import KE.KNestM
import PySem.Challenge.RW_bookpack_k02_ids_links_and_tokens
set_option Elab.async false
set_option linter.all false
set_option autoImplicit false
set_option maxRecDepth 100000
set_option maxHeartbeats 40000000
/-! Ve1: an own exception's __init__ that says super().__init__('..') and stores its parameters. -/
namespace Vd
open PySem PySem.Spec PyProof.Rows L2

theorem look_nd {β : Type} : ∀ {l : List (Str × β)} {x : Str} {v : β}, (l.map (·.1)).Nodup → (x, v) ∈ l → l.lookup x = some v
  | [], _, _, _, h => by cases h
  | (y, u) :: l, x, v, nd, h => by
    rw [List.map_cons, List.nodup_cons] at nd
    rw [List.lookup_cons]
    rcases List.mem_cons.mp h with e | h
    · cases e
      simp
    · have ne : x ≠ y := fun z => nd.1 (z ▸ (List.mem_map_of_mem (f := fun p : Str × β => p.1) h : x ∈ l.map (·.1)))
      rw [show (x == y) = false from by simpa using ne]
      exact look_nd nd.2 h
/-- a def that closes over __class__ (the class at D), its file the program's own -/
structure FunS (P : Program) (K : PySem.W.Frag) (x qual : Str) (st : Stmt) (f : Addr) (fd : FuncData) (D : Addr) : Prop where
  ex : ∃ (oc kV doc pm ct ccl cl : Value) (od an cdd cld : Option Addr) (cda cc : Addr) (osl ccs csl : Array (Option Value)) (vs : Array Value) (file : Str) (tf : Tok),
    fd = PySem.W.ksFn x qual (defArgs st) (defBody st) (defScope st) .none kV doc pm an (.ref cda) ct cc ∧ K.lookup f = some ⟨oc, od, .func fd, osl⟩ ∧ PySem.W.codeIn K (.ref cda) qual = true ∧
      K.lookup cc = some ⟨cl, cld, .cell (some (.ref D)), csl⟩ ∧ K.lookup cda = some ⟨ccl, cdd, .fields vs, ccs⟩ ∧ vs[2]? = some (.str file tf) ∧ ((P.main.file : Str) == file) = true
  kp : PySem.W.keepIn K (.ref f) = true
/-- its names: parameters, super, __class__ -/
structure ScS (N : List Str) (sc : Scope) : Prop where
  kind : sc.kind = .function
  co : sc.isCoroutine = false
  gen : sc.isGenerator = false
  nd : N.Nodup
  loc : ∀ x ∈ N, sc.names.lookup x = some .local
  nocell : ∀ y ∈ sc.names, y.2 ≠ .cell
  sup : sc.names.lookup ("super" : Str) = some .globalImplicit
  cls : sc.names.lookup ("__class__" : Str) = some .free
  only : ∀ y ∈ sc.names, y.2 = .free → y.1 = ("__class__" : Str)

def cxS (CX : CXT) (P : Program) (w : World) (K : PySem.W.Frag) (mg : Str → Option Value) (base : Heap) (N : List Str) (qual : Str) (scope : Scope) (f : Addr) (cd : Value) (cc : Addr) (A : Around) (outer : List Env) (s : Shared) (H : Hp) (E : XK) : Cx where
  prog := P
  w := w
  K := K
  mg := mg
  base := base
  A := A.deeper (PySem.W.ksEnv qual scope s.heap.objs.size f cd cc)
  N := N
  s_0 := s
  H_0 := H
  env := PySem.W.ksEnv qual scope s.heap.objs.size f cd cc
  outer := outer
  stack := PySem.W.ksEnv qual scope s.heap.objs.size f cd cc :: outer
  ex := []
  calm := true
  fn := fun _ => false
  pn := []
  xe := fun e s' => wpAny (model P w) (A.deeper (PySem.W.ksEnv qual scope s.heap.objs.size f cd cc)) (leaving (PySem.W.ksEnv qual scope s.heap.objs.size f cd cc) e) (fun _ s'' => CX outer H s E e s'') (fun e' s'' => CX outer H s E e' s'') s'
section
variable {CX : CXT} {P : Program} {w : World} {K : PySem.W.Frag} {mg : Str → Option Value} {base : Heap} {N : List Str} {qual : Str} {scope : Scope} {f cc D : Addr} {cd : Value} {A : Around} {outer : List Env} {s : Shared} {H : Hp} {E : XK} {us : List Value} {vs : List V}
theorem startS (S : ScS N scope) (hd : A.handled = none) (e0 : Env0 P w K mg base A outer s H) (hl : vs.length = N.length) (r : Vals vs us) {cl : Value} {cld : Option Addr} {csl : Array (Option Value)} (hc : K.lookup cc = some ⟨cl, cld, .cell (some (.ref D)), csl⟩)
    {h1 : Heap} {tk : Nat} (hns : h1.Ns s.heap.objs.size fun y => (N.zip us).reverse.lookup y) (hk : ∀ b o, s.heap.get? b = some o → h1.get? b = some o) :
    Inv (cxS CX P w K mg base N qual scope f cd cc A outer s H E) [] (vs.map some) H { s with heap := h1, toks := tk } := by
  have noA : ∀ b : Addr, b ∉ (cxS CX P w K mg base N qual scope f cd cc A outer s H E).ex := fun b z => absurd (show b ∈ ([] : List Addr) from z) (by simp)
  have hb := e0.mod.kin _ _ hc
  have one : ∀ y c, (cxS CX P w K mg base N qual scope f cd cc A outer s H E).env.cells.lookup y = some c → y = "__class__" ∧ c = cc := fun y c h => by
    have h' : ([("__class__", cc)] : List (Str × Addr)).lookup y = some c := h
    rw [List.lookup_cons] at h'
    split at h'
    · rename_i q
      cases h'
      exact ⟨by simpa using q, rfl⟩
    · cases h'
  refine ⟨⟨e0.mod, S.kind, rfl, rfl, Nat.le_refl _, fun y z c h1 h2 => ?_, fun y hy => ?_, fun y c hf _ => ?_, fun _ => hd, Around.frames_deeper e0.frames, .inr ⟨rfl, rfl⟩, fun b z => absurd z (noA b), e0.bs, e0.bsz, fun b _ _ => noA b, fun b z => absurd z (noA b), e0.funs, e0.frf⟩,
    rfl, e0.bare, Un.kept hk, ⟨_, hns, fun i y v h1 h2 h3 => ?_⟩, fun y c h => ?_, e0.hok.fresh (Nat.le_refl _), fun y c h => ?_, fun p hp => absurd (show p ∈ ([] : List (Addr × Obj)) from hp) (by simp), e0.hok.kept hk, ?_⟩
  · rw [(one y c h1).1, (one z c h2).1]
  · have hy : scope.names.lookup y = some .cell ∨ scope.names.lookup y = some .free := hy
    rcases hy with hy | hy
    · exact absurd rfl (S.nocell _ (PySem.mem_of_lookup hy))
    · have := S.only _ (PySem.mem_of_lookup hy) rfl
      subst this
      exact ⟨cc, by first | rfl | simp [cxS]⟩
  · cases hf
  · rw [List.getElem?_map] at h2
    cases e : vs[i]? with
    | none => rw [e] at h2; cases h2
    | some a =>
      rw [e] at h2; cases h2
      obtain ⟨u, hu, rv⟩ := r.get e
      refine ⟨u, rv, .inl ⟨S.loc y (List.mem_of_getElem? h1), ?_⟩⟩
      have ndr : ((N.zip us).map (·.1)).Nodup := by
        rw [List.map_fst_zip (by rw [← hl, r.length]; exact Nat.le_refl _)]
        exact S.nd
      have hm : (y, u) ∈ N.zip us := List.mem_of_getElem? (i := i) (by rw [List.getElem?_zip_eq_some]; exact ⟨h1, hu⟩)
      refine look_nd ?_ (List.mem_reverse.mpr hm)
      rw [List.map_reverse]
      exact (List.reverse_perm _).nodup_iff.mpr ndr
  · obtain ⟨_, rfl⟩ := one y c h
    exact ⟨_, _, hk _ _ (e0.bs _ _ hb).1, rfl⟩
  · obtain ⟨_, rfl⟩ := one y c h
    exact (e0.bs _ _ hb).2
  · rw [List.length_map]; exact hl
end
end Vd
/-! Ve2: super().__init__('..') in an exception's __init__. -/
namespace Vd
open PySem PySem.Spec PyProof.Rows L2
/-- what the written part says of the class, for super() -/
structure SupC (K : PySem.W.Frag) (D : Addr) : Prop where
  ox : OexC K D
  sup : PySem.W.ks_superIn K D D "__init__" = some (some (.builtin "ValueError.__init__"))
  self : PySem.W.mroIn K D (.ref D) = some true
  ve : PySem.W.subIn K (.ref D) (.type "ValueError") = some true
  opq : PySem.W.nsIn K cStatics "thirdparty.any" = some none
abbrev exR (D t : Addr) (dx : Option Addr) : Obj := { cls := .ref D, dict := dx, data := .fields #[.ref t, .none, .none, .none, .bool false, .none] }
section
variable {P : Program} {w : World} {A : Around} {K : PySem.W.Frag} {D a u t0 : Addr} {Q : Value → Shared → Prop} {Er : Value → Shared → Prop} {hp : Heap} {g : Array GenState} {dr : Drawn} {tk : Nat} {os : OsState}
theorem call_mw (T : OexC K D) (KX : K.In hp) (he : hp.get? a = some (exR D t0 none)) (hu : hp.get? u = some (PySem.W.kxs_mw "ValueError.__init__" a)) {rest : List Value} (hz : rest.length ≤ sizeLine)
    (hq : ∀ h' t1, (∀ b o, b ≠ a → hp.get? b = some o → h'.get? b = some o) → h'.get? a = some (exR D t1 none) → Q .none ⟨h', g, dr, tk, os⟩) :
    wpAny (model P w) A (call (.ref u) rest) Q Er ⟨hp, g, dr, tk, os⟩ := by
  obtain ⟨nm, q, N, bs, bm, sn, sub, ab, col, dd, k0, k1, k2, k3, k5, hC, hbm⟩ := T.cls
  have hD := KX _ _ hC
  have m1 : (Value.type "method-wrapper" == Value.type "method" || Value.type "method-wrapper" == Value.type "builtin_function_or_method" || Value.type "method-wrapper" == Value.type "method-wrapper") = true := by decide
  refine wpAny_call (codeAny_of_tree ?_)
  change wpAny _ (A.in1) (callAny (Value.ref u) { pos := rest }) _ _ _
  simp only [callAny]
  refine wpAny_bind (wpAny_load hu ?_)
  simp only [PySem.W.kxs_mw, m1, if_true]
  refine PySem.W.KFB.if_so (show (Value.type "method-wrapper" != Value.type "method") = true by decide) ?_
  have FB := F.excBase_ValueError
  refine wpAny_bind (PySem.W.check_bound_init FB.toExcCallFacts hD he rfl ?_)
  refine wpAny_bind (wpAny_pure (wpAny_pure ?_))
  refine ⟨plainId_quiet FB.init.plain _, codeAny_builtin FB.initEntry ?_⟩
  exact PySem.W.exc_init_tree (cls := .ref D) (t0 := t0) (dv := none) (c2 := .none) (c3 := .none) (b4 := .bool false) he hz fun h' k1 k2 k3 => hq h' _ k1 k2
end
section
variable {P : Program} {w : World} {K : PySem.W.Frag} {mg : Str → Option Value} {base : Heap} {x qual : Str} {st : Stmt} {f D : Addr} {fd : FuncData} {N : List Str} {k : Nat} {rest : List Stmt} {m : Str} {p0 p1 p2 p3 p4 pc : Pos} {kd : Nat} {sp : Sp}
/-- a def whose body is super().__init__('m'), then rest -/
theorem fn_super (F : FunS P K x qual st f fd D) (C : SupC K D) (S : ScS N (defScope st)) {ar : Arg} (hN : N[0]? = some ar.arg)
    (hbd : defBody st = .Expr (.Call (.Attribute (.Call (.Name "super" p0) [] [] p1) "__init__" p2) [.Constant (.str m) kd pc] [] p3) p4 :: rest)
    (har : ((defArgs st).posonlyargs ++ (defArgs st).args).head? = some ar) (mS : mg "super" = none) (htop : (P.main.scope.names.lookup ("super" : Str)).isSome = false) (hmz : m.length ≤ sizeLine)
    {pl : Env → Sem Bool} (hcall : ∀ env, eval (.Call (.Attribute (.Call (.Name "super" p0) [] [] p1) "__init__" p2) [.Constant (.str m) kd pc] [] p3) env = (do
      let ov ← attributeBase (.Call (.Name "super" p0) [] [] p1) "__init__" env (eval (.Call (.Name "super" p0) [] [] p1) env)
      standAt p2.atName
      let (fm, first) ← holding [ov] (getMethod ov "__init__" (pl env))
      callWith p3 fm first (backTo p3 (starEach [.Constant (.str m) kd pc] env)) []))
    (len : ∀ vs H Q E, sp vs H Q E → vs.length = N.length) (hself : ∀ vs H Q E, sp vs H Q E → ∃ a ws, vs = .ref a :: ws ∧ H a = some (exo a D none))
    (hbody : ∀ (cd : Value) (cc : Addr) (A : Around) (outer : List Env) (s : Shared) (H : Hp) (vs : List V) (Q : VK) (E : XK), sp vs H Q E →
      ∃ t, PSs (cxS (L2.CX P w) P w K mg base N qual (defScope st) f cd cc A outer s H E) rest t ∧ t { nx := fun _ H' => Q .non H', rt := Q } (vs.map some) H) :
    FnOk P w K mg base (L2.CX P w) (k + 1) f fd N sp := by
  obtain ⟨oc, kV, doc, pmV, ct, ccl, cl, od, an, cdd, cld, cda, cc, osl, ccs, csl, vs0, file, tf, rfl, lk, hcd, lcc, lcd, hv2, hfl⟩ := F.ex
  refine ⟨len, fun A outer s H args us vs Q E hr e0 hb r hsp => ?_⟩
  have hl := len _ _ _ _ hsp
  have KX : K.In s.heap := e0.mod.kin.keeps fun b o e => (e0.bs b o e).1
  have lim : s.heap.NoLimit := e0.mod.nolimit.keeps fun b o e => (e0.bs b o e).1
  refine PySem.ks_codeAny_call_defAt (fd := PySem.W.ksFn x qual (defArgs st) (defBody st) (defScope st) .none kV doc pmV an (.ref cda) ct cc) (body := defBody st) (binds := N.zip us) hr.depth (KX _ _ lk) rfl lim (PySem.W.codeRec_of KX hcd) rfl hb S.nocell
    (fun y hy => S.loc _ (List.of_mem_zip hy).1) (fun h₁ hns hk₁ => ?_) S.co S.gen S.kind
  have I := startS (CX := L2.CX P w) (E := E) (f := f) (cd := .ref cda) (qual := qual) (A := A) (outer := outer) (tk := s.toks + (N.zip us).length) S hr.hd e0 hl r lcc hns hk₁
  obtain ⟨a, ws, ev, ea⟩ := hself _ _ _ _ hsp
  obtain ⟨t, ht, hq⟩ := hbody (.ref cda) cc A outer s H vs Q E hsp
  have KX1 := I.kIn
  have sv : (N.zip us).reverse.lookup ar.arg = some (.ref a) := by
    subst ev
    cases r with
    | @cons _ u0 _ ur ra rr =>
      obtain rfl : u0 = Value.ref a := ra
      cases N with
      | nil => cases hN
      | cons n0 N' =>
        cases hN
        refine look_nd ?_ (List.mem_reverse.mpr (by rw [List.zip_cons_cons]; exact List.mem_cons_self))
        rw [List.map_reverse]
        refine (List.reverse_perm _).nodup_iff.mpr ?_
        rw [List.map_fst_zip (by have := rr.length; simp at hl ⊢; omega)]
        exact S.nd
  rw [hbd]
  refine ks_wpAt_execs_cons (ks_wpAt_Expr_any ?_ ?_ ?_)
  rotate_left
  · exact I.quiet
  · rfl
  refine ks_wpAt_MethodCall (he := hcall _) ?_
  obtain ⟨cdD, hcD⟩ : ∃ cd, PySem.W.clsIn K D = some cd := by
    cases h : PySem.W.clsIn K D with
    | none => have := C.sup; unfold PySem.W.ks_superIn at this; rw [h] at this; cases this
    | some cd => exact ⟨cd, rfl⟩
  obtain ⟨oD, hD1, hD2⟩ : ∃ oD, h₁.get? D = some oD ∧ oD.data = .cls cdD := by
    have hD := hcD
    unfold PySem.W.clsIn at hD
    split at hD
    · rename_i c d cd' sl ho
      cases hD
      exact ⟨_, KX1 _ _ ho, rfl⟩
    · cases hD
  obtain ⟨t0, hoa⟩ := exo_at I.hok ea
  obtain ⟨mb, hmb1, hmb2⟩ := I.mod.blt
  refine ks_wpAt_super_base (env := PySem.W.ksEnv qual (defScope st) s.heap.objs.size f (.ref cda) cc) S.sup S.cls (by decide) rfl (KX1 _ _ lk) rfl har rfl (KX1 _ _ lcd) rfl hv2 hfl htop ?_
  refine PySem.W.ks_loadName_global S.kind S.sup (PySem.Calls.loadGlobal_builtin (env := PySem.W.ksEnv qual (defScope st) s.heap.objs.size f (.ref cda) cc) (I.mod.glob.keeps I.bk) mS (hmb1.keeps I.bk) ((hmb2 _ (by decide)).trans PyProof.Rows.Boot.«super») ⟨rfl, ?_⟩)
  refine wpAny_loadName_free S.kind S.cls rfl ⟨_, KX1 _ _ lcc, rfl⟩ ?_
  refine wpAny_loadName_local S.kind (S.loc _ (List.mem_of_getElem? hN)) hns sv ?_
  refine ks_wpAny_isType_cls hD1 hD2 ⟨rfl, ?_⟩
  have IA : PySem.W.InstAt h₁ a (exR D t0 none) D none := ⟨hoa, rfl, rfl, trivial⟩
  refine ks_wpAny_call_super hD1 hD2 hoa rfl (fun c e => by cases e) (PySem.W.looks_mroIn KX1 C.self) (fun h2 eso k2 => ?_)
  have I2 : Inv _ [] _ H ⟨h2, s.gens, s.drawn, s.toks + (N.zip us).length, s.os⟩ := I.kept (t' := s.toks + (N.zip us).length) k2
  have IA2 : PySem.W.InstAt h2 a (exR D t0 none) D none := ⟨k2 _ _ hoa, rfl, rfl, trivial⟩
  have hal : PySem.W.alongIn K "__init__" ((cdD.mro.dropWhile (· != .ref D)).drop 1) = some (some (.builtin "ValueError.__init__")) := by
    have := C.sup
    unfold PySem.W.ks_superIn at this
    rw [hcD] at this
    exact this
  refine PySem.W.kxs_getMethod PySem.W.kxs_ValueError eso (PySem.W.looks_opaque I2.kIn C.opq) (l₀ := cdD.mro) (fun A Q E s k q => wpAny_bind ((PySem.W.looks_clsIn I2.kIn hcD) A _ E s k (wpAny_pure q))) rfl I2.kIn hal
    (IA2.type.andThen (PySem.W.looks_subIn I2.kIn C.ve)) (PySem.W.ks_ne I2.kIn IA2 hcD) (by decide) ?_
  have I3 : Inv _ [] _ H ⟨h2.push (PySem.W.kxs_mw "ValueError.__init__" a), s.gens, s.drawn, s.toks + (N.zip us).length + 1, s.os⟩ := I2.kept (t' := s.toks + (N.zip us).length + 1) fun b o e => Heap.get?_push_of_some _ e
  have hu : (h2.push (PySem.W.kxs_mw "ValueError.__init__" a)).get? h2.objs.size = some (PySem.W.kxs_mw "ValueError.__init__" a) := Heap.get?_push_at rfl rfl
  have I3' : Inv _ [(h2.objs.size, PySem.W.kxs_mw "ValueError.__init__" a)] _ H ⟨h2.push (PySem.W.kxs_mw "ValueError.__init__" a), s.gens, s.drawn, s.toks + (N.zip us).length + 1, s.os⟩ := I3.pins_of fun p hp => by
    rcases List.mem_cons.mp hp with rfl | hp
    · refine ⟨hu, I2.hok.fresh (Nat.le_refl _), fun z => ?_, fun z => I2.nofs (Nat.le_refl _) z, fun v z => by cases z⟩
      have := I2.lt
      rw [← z] at this
      exact Nat.lt_irrefl _ this
    · cases hp
  refine PySem.W.kxs_callWith (i := "ValueError.__init__") (x := a) rfl (PySem.Calls.evalArgs_plain (thn ((pa_cons (pe_str (x := m)) pa_nil).run p3 _ _ _ H (fun vs H4 => vs = [V.str m] ∧ H4 = H) I3' ⟨rfl, rfl⟩) fun us4 s4 h4 => ?_))
  obtain ⟨vs4, H4, I4, r4, ev4, rfl⟩ := h4
  have hu4 := (I4.pin (h2.objs.size, PySem.W.kxs_mw "ValueError.__init__" a) (by simp)).1
  refine ⟨hu4, ?_⟩
  obtain ⟨t4, ho4⟩ := exo_at I4.hok ea
  obtain ⟨hp4, g4, dr4, tk4, os4⟩ := s4
  refine call_mw C.ox I4.kIn ho4 hu4 ?_ fun h5 t5 k5 e5 => ?_
  · show us4.length ≤ sizeLine
    rw [← r4.length, ev4]
    show 1 ≤ sizeLine; decide
  have J := I4.write (t' := tk4) (x := a) (e := a) (o := exo a D none) (by rw [ea]; exact True.intro) (.inl rfl) k5 ⟨_, e5⟩ (exo_ok e5)
  have eH : upd H4 a (exo a D none) = H4 := by
    funext b
    by_cases q : b = a
    · rw [q, upd_same, ea]
    · rw [upd_ne q]
  rw [eH] at J
  refine wpAt_of_wpAny (wpAny_mono (ht.run _ _ (vs.map some) H4 _ J hq) (fun fl s' hs => ?_) fun e s' hs => hs)
  cases fl with
  | ret u =>
    obtain ⟨v, σ', H', J', rv, q⟩ := hs
    exact ⟨v, H', J'.os, J'.bare, J'.base, J'.hok, rv, q⟩
  | next =>
    obtain ⟨σ', H', J', q⟩ := hs
    exact ⟨.non, H', J'.os, J'.bare, J'.base, J'.hok, rfl, q⟩
  | brk =>
    obtain ⟨_, _, _, q⟩ := hs
    exact False.elim q
  | cont =>
    obtain ⟨_, _, _, q⟩ := hs
    exact False.elim q
end
end Vd
/-! Ve3: the whole __init__ of an own exception: super().__init__('..'), then its parameters as fields. -/
namespace Vd
open PySem PySem.Spec PyProof.Rows L2
def noDbg (n : Str) : Bool := decide (n ≠ ("__debug__" : Str)) && decide (n ≠ ("__classdict__" : Str))
/-- o.f = v -/
def stO : Stmt → Option (Str × Str × Str)
  | .Assign [.Attribute (.Name s _) f _] (.Name v _) _ => some (s, f, v)
  | _ => none
theorem stO_eq {x : Stmt} {s f v : Str} (h : stO x = some (s, f, v)) : ∃ p1 p2 p3 p4, x = .Assign [.Attribute (.Name s p1) f p2] (.Name v p3) p4 := by
  unfold stO at h
  split at h
  · cases h; exact ⟨_, _, _, _, rfl⟩
  · cases h
/-- self.n = n for each name -/
def stB : List Str → List Stmt → Bool
  | [], [] => true
  | n :: ns, x :: r => decide (stO x = some (("self" : Str), n, n)) && noDbg n && stB ns r
  | _, _ => false
section
variable {X : Cx} {D a : Addr} {all : List Str} {ws : List V}
theorem st_name {i : Nat} {n : Str} {p : Pos} (hN : X.N[i]? = some n) (hv : X.env.scope.names.lookup n = some .local) (hd : noDbg n = true) : PE X (.Name n p) (tVar i) := by
  unfold noDbg at hd
  simp only [Bool.and_eq_true, decide_eq_true_eq] at hd
  exact pe_var hN (.inl hv) (by simpa using hd.1) (by simpa using hd.2)
/-- the stores behind the first -/
theorem st_tail (hN : X.N = ("self" : Str) :: all) (hl : ∀ x ∈ X.N, X.env.scope.names.lookup x = some .local) (T : OexC X.K D) (hno : ∀ n ∈ all, PySem.W.findIn X.K (.ref D) n = some none) :
    ∀ (ns : List Str) (i : Nat) (sts : List Stmt), all.drop i = ns → stB ns sts = true → ∃ t, PSs X sts t ∧ ∀ (Dn : Ends) (H : Hp) (dx : Addr) (fs : List (Str × V)), ws.length = all.length → H a = some (exo a D (some dx)) → H dx = some (exd dx fs) → dx ≠ a →
      fs.length + ns.length ≤ 800 → Dn.nx ((V.ref a :: ws).map some) (upd H dx (exd dx ((ns.zip (ws.drop i)).reverse ++ fs))) → t Dn ((V.ref a :: ws).map some) H := by
  intro ns
  induction ns with
  | nil =>
    intro i sts h1 h2
    cases sts with
    | cons x r => unfold stB at h2; cases h2
    | nil =>
      refine ⟨_, pss_nil, fun Dn H dx fs _ ea ed _ _ q => ?_⟩
      have e : upd H dx (exd dx fs) = H := by
        funext b
        by_cases z : b = dx
        · rw [z, upd_same, ed]
        · rw [upd_ne z]
      simp only [List.zip_nil_left, List.reverse_nil, List.nil_append] at q
      rw [e] at q
      exact q
  | cons n ns ih =>
    intro i sts h1 h2
    cases sts with
    | nil => unfold stB at h2; cases h2
    | cons x r =>
      unfold stB at h2
      simp only [Bool.and_eq_true, decide_eq_true_eq] at h2
      obtain ⟨⟨h2, hd⟩, h3⟩ := h2
      obtain ⟨p1, p2, p3, p4, rfl⟩ := stO_eq h2
      have hi : all[i]? = some n := by
        have := congrArg List.head? h1
        rw [List.head?_drop] at this
        exact this
      have h1' : all.drop (i + 1) = ns := by
        have := congrArg List.tail h1
        rw [List.tail_drop] at this
        exact this
      obtain ⟨t, ht, hq⟩ := ih (i + 1) r h1' h3
      have hm := List.mem_of_getElem? hi
      refine ⟨_, pss_cons (ps_ost (st_name (i := 0) (by rw [hN]; rfl) (hl _ (by rw [hN]; exact List.mem_cons_self)) (by decide)) (st_name (i := i + 1) (by rw [hN]; simpa using hi) (hl _ (by rw [hN]; exact List.mem_cons_of_mem _ hm)) hd)) ht, fun Dn H dx fs hw ea ed nda hlen q => ?_⟩
      have hil : i < ws.length := by rw [hw]; exact (List.getElem?_eq_some_iff.mp hi).1
      refine ⟨ws[i], by simp [hil], .ref a, rfl, a, D, rfl, T, hno n hm, .inr ⟨dx, fs, ea, ed, by simp at hlen; omega, ?_⟩⟩
      refine hq Dn _ dx _ hw (by rw [upd_ne (Ne.symm nda)]; exact ea) upd_same nda (by simp at hlen ⊢; omega) ?_
      rw [upd_upd]
      have e : (n :: ns).zip (ws.drop i) = (n, ws[i]) :: ns.zip (ws.drop (i + 1)) := by
        rw [List.drop_eq_getElem_cons hil]; rfl
      rw [e] at q
      simpa using q
/-- all stores -/
theorem st_all (hN : X.N = ("self" : Str) :: all) (hl : ∀ x ∈ X.N, X.env.scope.names.lookup x = some .local) (T : OexC X.K D) (hno : ∀ n ∈ all, PySem.W.findIn X.K (.ref D) n = some none) (hz : all.length ≤ 800) {sts : List Stmt} (h2 : stB all sts = true) :
    ∃ t, PSs X sts t ∧ ∀ (Dn : Ends) (H : Hp), ws.length = all.length → H a = some (exo a D none) → (all = [] → Dn.nx ((V.ref a :: ws).map some) H) →
      (all ≠ [] → ∀ dx, H dx = none → dx ≠ a → Dn.nx ((V.ref a :: ws).map some) (upd (upd H a (exo a D (some dx))) dx (exd dx ((all.zip ws).reverse)))) → t Dn ((V.ref a :: ws).map some) H := by
  cases all with
  | nil =>
    cases sts with
    | cons x r => unfold stB at h2; cases h2
    | nil => exact ⟨_, pss_nil, fun Dn H _ _ q _ => q rfl⟩
  | cons n ns =>
    cases sts with
    | nil => unfold stB at h2; cases h2
    | cons x r =>
      unfold stB at h2
      simp only [Bool.and_eq_true, decide_eq_true_eq] at h2
      obtain ⟨⟨h2, hd⟩, h3⟩ := h2
      obtain ⟨p1, p2, p3, p4, rfl⟩ := stO_eq h2
      obtain ⟨t, ht, hq⟩ := st_tail (a := a) (ws := ws) hN hl T hno ns 1 r rfl h3
      refine ⟨_, pss_cons (ps_ost (st_name (i := 0) (by rw [hN]; rfl) (hl _ (by rw [hN]; exact List.mem_cons_self)) (by decide)) (st_name (i := 1) (by rw [hN]; rfl) (hl _ (by rw [hN]; exact List.mem_cons_of_mem _ List.mem_cons_self)) hd)) ht, fun Dn H hw ea _ q => ?_⟩
      cases ws with
      | nil => cases hw
      | cons y ws =>
        refine ⟨y, rfl, .ref a, rfl, a, D, rfl, T, hno n List.mem_cons_self, .inl ⟨ea, fun dx hdx nda => ?_⟩⟩
        refine hq Dn _ dx [(n, y)] hw upd_same (by rw [upd_ne nda]; exact upd_same) nda (by simp at hz ⊢; omega) ?_
        have := q (by simp) dx hdx nda
        have e : upd (upd (upd H dx (exd dx [(n, y)])) a (exo a D (some dx))) dx (exd dx ((ns.zip ((y :: ws).drop 1)).reverse ++ [(n, y)])) = upd (upd H a (exo a D (some dx))) dx (exd dx (((n :: ns).zip (y :: ws)).reverse)) := by
          funext b
          by_cases z : b = dx
          · rw [z, upd_same, upd_same]; simp
          · rw [upd_ne z, upd_ne z]
            by_cases z2 : b = a
            · rw [z2, upd_same, upd_same]
            · rw [upd_ne z2, upd_ne z2, upd_ne z]
        show Dn.nx _ _
        rw [e]
        exact this
end
/-- what such an __init__ does -/
def spInit (D : Addr) (all : List Str) : Sp := fun vs H Q _ => ∃ (a : Addr) (ws : List V), vs = .ref a :: ws ∧ ws.length = all.length ∧ H a = some (exo a D none) ∧ (all = [] → Q .non H) ∧
  (all ≠ [] → ∀ dx, H dx = none → dx ≠ a → Q .non (upd (upd H a (exo a D (some dx))) dx (exd dx ((all.zip ws).reverse))))
/-- the shape of the def -/
def initB (all : List Str) (st : Stmt) : Bool := match defBody st with
  | .Expr (.Call (.Attribute (.Call (.Name s _) [] [] _) i _) [.Constant (.str m) _ _] [] _) _ :: r => decide (s = "super") && decide (i = "__init__") && decide (m.length ≤ 1000) && stB all r
  | _ => false
section
variable {P : Program} {w : World} {K : PySem.W.Frag} {mg : Str → Option Value} {base : Heap} {x qual : Str} {st : Stmt} {f D : Addr} {fd : FuncData} {all : List Str}
theorem fn_init {rest : List Stmt} {m : Str} {p0 p1 p2 p3 p4 pc : Pos} {kd : Nat} (F : FunS P K x qual st f fd D) (C : SupC K D) (S : ScS (("self" : Str) :: all) (defScope st)) {ar : Arg} (har : ((defArgs st).posonlyargs ++ (defArgs st).args).head? = some ar) (hs : ar.arg = "self")
    (hbd : defBody st = .Expr (.Call (.Attribute (.Call (.Name "super" p0) [] [] p1) "__init__" p2) [.Constant (.str m) kd pc] [] p3) p4 :: rest)
    (mS : mg "super" = none) (htop : (P.main.scope.names.lookup ("super" : Str)).isSome = false) (hmz : m.length ≤ sizeLine)
    {pl : Env → Sem Bool} (hcall : ∀ env, eval (.Call (.Attribute (.Call (.Name "super" p0) [] [] p1) "__init__" p2) [.Constant (.str m) kd pc] [] p3) env = (do
      let ov ← attributeBase (.Call (.Name "super" p0) [] [] p1) "__init__" env (eval (.Call (.Name "super" p0) [] [] p1) env)
      standAt p2.atName
      let (fm, first) ← holding [ov] (getMethod ov "__init__" (pl env))
      callWith p3 fm first (backTo p3 (starEach [.Constant (.str m) kd pc] env)) []))
    (hst : stB all rest = true) (hno : ∀ n ∈ all, PySem.W.findIn K (.ref D) n = some none) (hz : all.length ≤ 800) :
    FnOk P w K mg base (L2.CX P w) 1 f fd (("self" : Str) :: all) (spInit D all) := by
  refine fn_super F C S (ar := ar) (by rw [hs]; rfl) hbd har mS htop hmz hcall (fun vs H Q E h => ?_) (fun vs H Q E h => ?_) fun cd cc A outer s H vs Q E h => ?_
  · obtain ⟨a, ws, rfl, hl, _⟩ := h
    simp [hl]
  · obtain ⟨a, ws, rfl, _, ea, _⟩ := h
    exact ⟨a, ws, rfl, ea⟩
  · obtain ⟨a, ws, rfl, hl, ea, q0, q1⟩ := h
    obtain ⟨t, ht, hq⟩ := st_all (X := cxS (L2.CX P w) P w K mg base (("self" : Str) :: all) qual (defScope st) f cd cc A outer s H E) (a := a) (ws := ws) rfl (fun x hx => S.loc x hx) C.ox hno hz hst
    exact ⟨t, ht, hq _ H hl ea q0 q1⟩
end
end Vd
/-! Vd1: data, what stands for it in the heap, the frame of a def as a row of slots, one step of it. -/
namespace Vd
open PySem PySem.Spec PyProof.Rows L2

/-! ### data -/
abbrev DK := Sum Int (List Nat)
inductive D where
  | non
  | bl (b : Bool)
  | int (i : Int)
  | str (l : List Nat)
  | tup (l : List D)
  | lst (l : List D)
  | dct (l : List (DK × D))
  | ins (c : Nat) (fs : List (Nat × D))
  | exc (c : Nat) (fs : List (Nat × D))
  | th (k : Nat)
  deriving Inhabited
/-- a text by its codes -/
def sT (l : List Nat) : Str := ⟨l.toArray⟩
def kT : DK → Key
  | .inl i => .inl i
  | .inr l => .inr (sT l)
/-- what the proof knows of the whole text: the written part, classes by number, attribute names by number; tables of code objects (tb) and what is kept of them (tok) -/
structure Gx where
  K : PySem.W.Frag
  ca : Nat → Addr
  ta : Nat → Addr
  cv : Nat → Value
  fl : Nat → Str
  tb : Addr → Prop
  tok : Hp → Prop
  rp : Bool
  tokU : ∀ H a o, tok H → (∀ ps, H a ≠ some (.tbl ps)) → (∀ p, H a ≠ some (.ext p)) → tok (upd H a o)
def Ex (H H' : Hp) : Prop := ∀ a o, H a = some o → H' a = some o
theorem Ex.refl (H : Hp) : Ex H H := fun _ _ h => h
theorem Ex.trans {H H1 H2 : Hp} (p : Ex H H1) (q : Ex H1 H2) : Ex H H2 := fun a o h => q a o (p a o h)
theorem Ex.new {H : Hp} {p : Addr} {o : HO} (h : H p = none) : Ex H (upd H p o) := fun a u e => by
  rw [upd_ne (ne_of_none e h)]; exact e
theorem Ex.back {H H' : Hp} {a : Addr} (e : Ex H H') (h : H' a = none) : H a = none := by
  cases q : H a with
  | none => rfl
  | some o => rw [e a o q] at h; cases h
theorem Ex.sqt {K : PySem.W.Frag} {H H' : Hp} {a : Addr} {xs : List V} (e : Ex H H') (h : SqT K H a xs) : SqT K H' a xs := by
  rcases h with (h | ⟨o, h⟩) | h
  · exact .inl (.inl (e _ _ h))
  · exact .inl (.inr ⟨o, e _ _ h⟩)
  · exact .inr h

theorem Ex.rd {H H' : Hp} {a : Addr} {u : HO} (e : Ex H H') (h : Rd H a u) : Rd H' a u := by
  rcases h with h | ⟨o, h⟩
  · exact .inl (e _ _ h)
  · exact .inr ⟨o, e _ _ h⟩
theorem Ex.sql {K : PySem.W.Frag} {H H' : Hp} {a : Addr} {xs : List V} (e : Ex H H') (h : SqL K H a xs) : SqL K H' a xs := by
  rcases h with (h | ⟨o, h⟩) | h
  · exact .inl (.inl (e _ _ h))
  · exact .inl (.inr ⟨o, e _ _ h⟩)
  · exact .inr h

/-! ### what stands for data -/
/-- an exception's object that was caught -/
def exH (a : Addr) (C : Value) (dd : Option Addr) : HO := .ext fun h => ∃ (oe : Obj) (vs : Array Value), h.get? a = some oe ∧ oe.cls = C ∧ oe.dict = dd ∧ oe.data = .fields vs
/-- its dict, if it has one -/
def XDict (H : Hp) (dd : Option Addr) (kfs : List (Str × V)) : Prop := match dd with
  | none => kfs = []
  | some dx => H dx = some (.xd kfs)
theorem XDict.ex {H H' : Hp} {dd : Option Addr} {kfs : List (Str × V)} (e : Ex H H') (h : XDict H dd kfs) : XDict H' dd kfs := by
  cases dd with
  | none => exact h
  | some dx => exact e _ _ h
mutual
def Rp (g : Gx) (H : Hp) : D → V → Prop
  | .non, v => v = .non
  | .bl b, v => v = .bl b
  | .int i, v => v = .int i
  | .str l, v => v = .str (sT l) ∧ l.length ≤ sizeLine
  | .tup l, v => ∃ a vs, v = .ref a ∧ SqT g.K H a vs ∧ Rps g H l vs
  | .lst l, v => ∃ a vs, v = .ref a ∧ SqL g.K H a vs ∧ Rps g H l vs
  | .dct l, v => ∃ a kvs, v = .ref a ∧ Rd H a (.dK kvs) ∧ Rpk g H l kvs
  | .ins c fs, v => ∃ a dx kfs, v = .ref a ∧ H a = some (.ins (g.ca c) dx kfs) ∧ Rpf g H fs kfs
  | .exc c fs, v => ∃ a dd kfs, v = .ref a ∧ H a = some (exH a (g.cv c) dd) ∧ XDict H dd kfs ∧ Rpf g H fs kfs
  | .th k, v => v = .ref (g.ta k)
def Rps (g : Gx) (H : Hp) : List D → List V → Prop
  | [], vs => vs = []
  | d :: l, vs => ∃ v r, vs = v :: r ∧ Rp g H d v ∧ Rps g H l r
def Rpk (g : Gx) (H : Hp) : List (DK × D) → List (Key × V) → Prop
  | [], vs => vs = []
  | (k, d) :: l, vs => ∃ v r, vs = (kT k, v) :: r ∧ Rp g H d v ∧ Rpk g H l r
def Rpf (g : Gx) (H : Hp) : List (Nat × D) → List (Str × V) → Prop
  | [], vs => vs = []
  | (n, d) :: l, vs => ∃ v r, vs = (g.fl n, v) :: r ∧ Rp g H d v ∧ Rpf g H l r
end
section
variable {g : Gx} {H H' : Hp}
mutual
theorem Rp.mono (e : Ex H H') : ∀ (d : D) (v : V), Rp g H d v → Rp g H' d v
  | .non, _, h => h
  | .bl _, _, h => h
  | .int _, _, h => h
  | .str _, _, h => h
  | .tup l, v, h => by
    obtain ⟨a, vs, rfl, h1, h2⟩ := h
    exact ⟨a, vs, rfl, e.sqt h1, Rps.mono e l vs h2⟩
  | .lst l, v, h => by
    obtain ⟨a, vs, rfl, h1, h2⟩ := h
    exact ⟨a, vs, rfl, e.sql h1, Rps.mono e l vs h2⟩
  | .dct l, v, h => by
    obtain ⟨a, vs, rfl, h1, h2⟩ := h
    exact ⟨a, vs, rfl, e.rd h1, Rpk.mono e l vs h2⟩
  | .ins c fs, v, h => by
    obtain ⟨a, dx, vs, rfl, h1, h2⟩ := h
    exact ⟨a, dx, vs, rfl, e _ _ h1, Rpf.mono e fs vs h2⟩
  | .exc c fs, v, h => by
    obtain ⟨a, dd, vs, rfl, h1, h2, h3⟩ := h
    exact ⟨a, dd, vs, rfl, e _ _ h1, h2.ex e, Rpf.mono e fs vs h3⟩
  | .th _, _, h => h
theorem Rps.mono (e : Ex H H') : ∀ (l : List D) (vs : List V), Rps g H l vs → Rps g H' l vs
  | [], _, h => h
  | d :: l, vs, h => by
    obtain ⟨v, r, rfl, h1, h2⟩ := h
    exact ⟨v, r, rfl, Rp.mono e d v h1, Rps.mono e l r h2⟩
theorem Rpk.mono (e : Ex H H') : ∀ (l : List (DK × D)) (vs : List (Key × V)), Rpk g H l vs → Rpk g H' l vs
  | [], _, h => h
  | (k, d) :: l, vs, h => by
    obtain ⟨v, r, rfl, h1, h2⟩ := h
    exact ⟨v, r, rfl, Rp.mono e d v h1, Rpk.mono e l r h2⟩
theorem Rpf.mono (e : Ex H H') : ∀ (l : List (Nat × D)) (vs : List (Str × V)), Rpf g H l vs → Rpf g H' l vs
  | [], _, h => h
  | (n, d) :: l, vs, h => by
    obtain ⟨v, r, rfl, h1, h2⟩ := h
    exact ⟨v, r, rfl, Rp.mono e d v h1, Rpf.mono e l r h2⟩
end
theorem Rps.length : ∀ {l : List D} {vs : List V}, Rps g H l vs → vs.length = l.length
  | [], _, h => by cases h; rfl
  | _ :: _, _, h => by
    obtain ⟨v, r, rfl, _, h2⟩ := h
    simp [Rps.length h2]
theorem Rps.get : ∀ {l : List D} {vs : List V} {i : Nat} {d : D}, Rps g H l vs → l[i]? = some d → ∃ v, vs[i]? = some v ∧ Rp g H d v
  | [], _, _, _, _, e => by simp at e
  | d :: l, vs, 0, d', h, e => by
    obtain ⟨v, r, rfl, h1, h2⟩ := h
    simp at e; subst e
    exact ⟨v, rfl, h1⟩
  | d :: l, vs, i + 1, d', h, e => by
    obtain ⟨v, r, rfl, h1, h2⟩ := h
    obtain ⟨w, e1, e2⟩ := Rps.get (i := i) (d := d') h2 (by simpa using e)
    exact ⟨w, by simpa using e1, e2⟩
theorem Rps.app : ∀ {l m : List D} {vs ws : List V}, Rps g H l vs → Rps g H m ws → Rps g H (l ++ m) (vs ++ ws)
  | [], _, _, _, h, k => by cases h; exact k
  | d :: l, m, vs, ws, h, k => by
    obtain ⟨v, r, rfl, h1, h2⟩ := h
    exact ⟨v, r ++ ws, rfl, h1, Rps.app h2 k⟩
theorem Rps.one {d : D} {v : V} (h : Rp g H d v) : Rps g H [d] [v] := ⟨v, [], rfl, h, rfl⟩
theorem Rps.cons {d : D} {v : V} {l : List D} {vs : List V} (h : Rp g H d v) (k : Rps g H l vs) : Rps g H (d :: l) (v :: vs) := ⟨v, vs, rfl, h, k⟩
theorem Rps.take : ∀ (n : Nat) {l : List D} {vs : List V}, Rps g H l vs → Rps g H (l.take n) (vs.take n)
  | 0, _, _, _ => rfl
  | _ + 1, [], _, h => by cases h; rfl
  | n + 1, d :: l, vs, h => by
    obtain ⟨v, r, rfl, h1, h2⟩ := h
    exact ⟨v, r.take n, rfl, h1, Rps.take n h2⟩
theorem Rps.drop : ∀ (n : Nat) {l : List D} {vs : List V}, Rps g H l vs → Rps g H (l.drop n) (vs.drop n)
  | 0, _, _, h => h
  | _ + 1, [], _, h => by cases h; rfl
  | n + 1, d :: l, vs, h => by
    obtain ⟨v, r, rfl, h1, h2⟩ := h
    exact Rps.drop n h2
theorem Rps.set : ∀ {l : List D} {vs : List V} (i : Nat) {d : D} {v : V}, Rps g H l vs → Rp g H d v → Rps g H (l.set i d) (vs.set i v)
  | [], _, _, _, _, h, _ => by cases h; rfl
  | _ :: l, vs, 0, d, w, h, k => by
    obtain ⟨v, r, rfl, h1, h2⟩ := h
    exact ⟨w, r, rfl, k, h2⟩
  | _ :: l, vs, i + 1, d, w, h, k => by
    obtain ⟨v, r, rfl, h1, h2⟩ := h
    exact ⟨v, r.set i w, rfl, h1, Rps.set i h2 k⟩
theorem Rps.dropLast {l : List D} {vs : List V} (h : Rps g H l vs) : Rps g H l.dropLast vs.dropLast := by
  rw [List.dropLast_eq_take, List.dropLast_eq_take, h.length]
  exact h.take _
theorem Rps.rev : ∀ {l : List D} {vs : List V}, Rps g H l vs → Rps g H l.reverse vs.reverse
  | [], _, h => by cases h; rfl
  | _ :: l, vs, h => by
    obtain ⟨v, r, rfl, h1, h2⟩ := h
    rw [List.reverse_cons, List.reverse_cons]
    exact (Rps.rev h2).app (.one h1)
theorem Rps.rep {l : List D} {vs : List V} (h : Rps g H l vs) : ∀ n : Nat, Rps g H (List.replicate n l).flatten (List.replicate n vs).flatten
  | 0 => rfl
  | n + 1 => by
    rw [List.replicate_succ, List.replicate_succ, List.flatten_cons, List.flatten_cons]
    exact h.app (h.rep n)
end

/-! ### owned objects, slots -/
inductive OC where
  | ol (l : List D)
  | od (l : List (DK × D))
  | oi (c : Nat) (fs : List (Nat × D))
  | fd (l : List (DK × D))
  deriving Inhabited
def OC.toD : OC → D
  | .ol l => .lst l
  | .od l => .dct l
  | .fd l => .dct l
  | .oi c fs => .ins c fs
def OC.isF : OC → Bool
  | .fd _ => true
  | _ => false
def RO (g : Gx) (Hb H : Hp) : OC → Addr → Prop
  | .ol l, a => ∃ vs, H a = some (.lst vs) ∧ Rps g Hb l vs
  | .od l, a => ∃ kvs, H a = some (.dK kvs) ∧ Rpk g Hb l kvs
  | .oi c fs, a => ∃ dx kfs, H a = some (.ins (g.ca c) dx kfs) ∧ Rpf g Hb fs kfs
  | .fd l, a => ∃ o kvs, H a = some (.frz o (.dK kvs)) ∧ Rpk g Hb l kvs
theorem RO.toD {g : Gx} {H : Hp} {c : OC} {a : Addr} (h : RO g H H c a) : Rp g H c.toD (.ref a) := by
  cases c with
  | ol l => obtain ⟨vs, h1, h2⟩ := h; exact ⟨a, vs, rfl, .of h1, h2⟩
  | od l => obtain ⟨vs, h1, h2⟩ := h; exact ⟨a, vs, rfl, .inl h1, h2⟩
  | fd l => obtain ⟨o, vs, h1, h2⟩ := h; exact ⟨a, vs, rfl, .inr ⟨o, h1⟩, h2⟩
  | oi c l => obtain ⟨dx, vs, h1, h2⟩ := h; exact ⟨a, dx, vs, rfl, h1, h2⟩
theorem RO.mono {g : Gx} {Hb Hb' H H' : Hp} {c : OC} {a : Addr} (e : Ex Hb Hb') (k : ∀ o, H a = some o → H' a = some o) (h : RO g Hb H c a) : RO g Hb' H' c a := by
  cases c with
  | ol l => obtain ⟨vs, h1, h2⟩ := h; exact ⟨vs, k _ h1, Rps.mono e l vs h2⟩
  | od l => obtain ⟨vs, h1, h2⟩ := h; exact ⟨vs, k _ h1, Rpk.mono e l vs h2⟩
  | oi c l => obtain ⟨dx, vs, h1, h2⟩ := h; exact ⟨dx, vs, k _ h1, Rpf.mono e l vs h2⟩
  | fd l => obtain ⟨o, vs, h1, h2⟩ := h; exact ⟨o, vs, k _ h1, Rpk.mono e l vs h2⟩
theorem RO.there {g : Gx} {Hb H : Hp} {c : OC} {a : Addr} (h : RO g Hb H c a) : ∃ o, H a = some o ∧ (∀ ps, o ≠ .tbl ps) ∧ (∀ p, o ≠ .ext p) := by
  cases c with
  | ol l => obtain ⟨vs, h1, h2⟩ := h; exact ⟨_, h1, (fun _ z => by cases z), (fun _ z => by cases z)⟩
  | od l => obtain ⟨vs, h1, h2⟩ := h; exact ⟨_, h1, (fun _ z => by cases z), (fun _ z => by cases z)⟩
  | oi c l => obtain ⟨dx, vs, h1, h2⟩ := h; exact ⟨_, h1, (fun _ z => by cases z), (fun _ z => by cases z)⟩
  | fd l => obtain ⟨o, vs, h1, h2⟩ := h; exact ⟨_, h1, (fun _ z => by cases z), (fun _ z => by cases z)⟩
/-- a slot: nothing known | data that stays | an object of the frame's own (b: lent by the caller; k: locked by a loop) -/
inductive SS where
  | un
  | dat (d : D)
  | own (b k : Bool) (c : OC)
  deriving Inhabited
abbrev VE := List SS
def Ow (g : Gx) (env : VE) (σ : L2.St) (a : Addr) : Prop := g.tb a ∨ ∃ (i : Nat) (b k : Bool) (c : OC), env[i]? = some (SS.own b k c) ∧ σ[i]? = some (some (V.ref a))
structure VS (g : Gx) (Hb : Hp) (env : VE) (σ : L2.St) (H : Hp) : Prop where
  len : env.length = σ.length
  ex : Ex Hb H
  dat : ∀ (i : Nat) (d : D), env[i]? = some (SS.dat d) → ∃ v, σ[i]? = some (some v) ∧ Rp g Hb d v
  own : ∀ (i : Nat) (b k : Bool) (c : OC), env[i]? = some (SS.own b k c) → ∃ a, σ[i]? = some (some (V.ref a)) ∧ Hb a = none ∧ RO g Hb H c a
  inj : ∀ (i j : Nat) (b k : Bool) (c : OC) (b' k' : Bool) (c' : OC) (a : Addr), env[i]? = some (SS.own b k c) → env[j]? = some (SS.own b' k' c') → σ[i]? = some (some (V.ref a)) → σ[j]? = some (some (V.ref a)) → i = j
  tok : g.tok H
  tbn : ∀ a, g.tb a → Hb a = none ∧ (∃ ps, H a = some (.tbl ps))
structure VP (S : Addr → Prop) (Hb H : Hp) (S' : Addr → Prop) (Hb' H' : Hp) : Prop where
  b : Ex Hb Hb'
  k : ∀ a o, H a = some o → ¬ S a → H' a = some o
  n : ∀ a o, Hb' a = some o → Hb a = some o ∨ H a = none ∨ S a
  s : ∀ a, S' a → S a ∨ H a = none
  t : ∀ a, H' a = none → H a = none
  f : ∀ a o u, H a = some (.frz o u) → H' a = some (.frz o u)
theorem VP.refl {S : Addr → Prop} {Hb H : Hp} : VP S Hb H S Hb H := ⟨Ex.refl _, fun _ _ h _ => h, fun _ _ h => .inl h, fun _ h => .inl h, fun _ h => h, fun _ _ _ h => h⟩
theorem VP.trans {S S1 S2 : Addr → Prop} {Hb H Hb1 H1 Hb2 H2 : Hp} (p : VP S Hb H S1 Hb1 H1) (q : VP S1 Hb1 H1 S2 Hb2 H2) : VP S Hb H S2 Hb2 H2 where
  b := p.b.trans q.b
  k := fun a o h n => q.k a o (p.k a o h n) fun z => by
    rcases p.s a z with z | z
    · exact n z
    · rw [z] at h; cases h
  n := fun a o h => by
    rcases q.n a o h with h | h | h
    · exact p.n a o h
    · exact .inr (.inl (p.t a h))
    · rcases p.s a h with h | h
      · exact .inr (.inr h)
      · exact .inr (.inl h)
  s := fun a h => by
    rcases q.s a h with h | h
    · exact p.s a h
    · exact .inr (p.t a h)
  t := fun a h => p.t a (q.t a h)
  f := fun a o u h => q.f a o u (p.f a o u h)
/-- a step within a smaller set -/
theorem VP.widen {S T : Addr → Prop} {Hb H Hb' H' : Hp} {S' T' : Addr → Prop} (p : VP S Hb H S' Hb' H') (h : ∀ a, S a → T a) (h' : ∀ a, T' a → T a ∨ H a = none) : VP T Hb H T' Hb' H' :=
  ⟨p.b, fun a o e n => p.k a o e fun z => n (h a z), fun a o e => (p.n a o e).imp id (Or.imp id (h a)), h', p.t, p.f⟩
section
variable {g : Gx} {Hb H H' : Hp} {env : VE} {σ : L2.St}
theorem Ow.ne_base (I : VS g Hb env σ H) {a : Addr} (h : Ow g env σ a) : Hb a = none := by
  rcases h with h | ⟨i, b, k, c, h1, h2⟩
  · exact (I.tbn a h).1
  · obtain ⟨a', e, n, _⟩ := I.own i b k c h1
    rw [h2] at e; cases e
    exact n
theorem Ow.there (I : VS g Hb env σ H) {a : Addr} (h : Ow g env σ a) : ∃ o, H a = some o := by
  rcases h with h | ⟨i, b, k, c, h1, h2⟩
  · obtain ⟨ps, e⟩ := (I.tbn a h).2
    exact ⟨_, e⟩
  · obtain ⟨a', e, n, r⟩ := I.own i b k c h1
    rw [h2] at e; cases e
    obtain ⟨o, e, _⟩ := r.there
    exact ⟨o, e⟩
theorem VS.tb_ne (I : VS g Hb env σ H) {a : Addr} (h : ∀ ps, H a ≠ some (.tbl ps)) : ¬ g.tb a := fun z => by
  obtain ⟨ps, e⟩ := (I.tbn a z).2
  exact h ps e
/-- a new object, not known from now on -/
theorem VS.temp (I : VS g Hb env σ H) {p : Addr} {o : HO} (hp : H p = none) : VS g Hb env σ (upd H p o) where
  len := I.len
  ex := I.ex.trans (.new hp)
  dat := I.dat
  own := fun i b k c h => by
    obtain ⟨a, e, n, r⟩ := I.own i b k c h
    exact ⟨a, e, n, r.mono (.refl _) fun o h => Ex.new hp _ _ h⟩
  inj := I.inj
  tok := g.tokU _ _ _ I.tok (fun ps z => by rw [hp] at z; cases z) (fun ps z => by rw [hp] at z; cases z)
  tbn := fun a h => ⟨(I.tbn a h).1, let ⟨ps, e⟩ := (I.tbn a h).2; ⟨ps, Ex.new hp _ _ e⟩⟩
/-- a temporary object is known from now on -/
theorem VS.keep (I : VS g Hb env σ H) {p : Addr} {o : HO} (hp : H p = some o) (hn : ¬ Ow g env σ p) (hb : Hb p = none) : VS g (upd Hb p o) env σ H where
  len := I.len
  ex := fun a u h => by
    by_cases q : a = p
    · subst q; rw [upd_same] at h; rw [hp]; exact h
    · rw [upd_ne q] at h; exact I.ex a u h
  dat := fun i d h => by
    obtain ⟨v, e, r⟩ := I.dat i d h
    exact ⟨v, e, Rp.mono (.new hb) d v r⟩
  own := fun i b k c h => by
    obtain ⟨a, e, n, r⟩ := I.own i b k c h
    have ne : a ≠ p := fun z => hn (.inr ⟨i, b, k, c, h, by rw [e, z]⟩)
    exact ⟨a, e, by rw [upd_ne ne]; exact n, r.mono (.new hb) fun o h => h⟩
  inj := I.inj
  tok := I.tok
  tbn := fun a h => by
    have ne : a ≠ p := fun z => hn (.inl (z ▸ h))
    exact ⟨by rw [upd_ne ne]; exact (I.tbn a h).1, (I.tbn a h).2⟩
theorem VP.temp {S : Addr → Prop} {p : Addr} {o : HO} (hp : H p = none) : VP S Hb H S Hb (upd H p o) :=
  ⟨.refl _, fun a u e _ => Ex.new hp _ _ e, fun _ _ h => .inl h, fun _ h => .inl h, fun _ h => Ex.back (.new hp) h, fun _ _ _ h => Ex.new hp _ _ h⟩
theorem VP.new {S : Addr → Prop} {p : Addr} {o : HO} (hp : H p = none) (hb : Hb p = none) : VP S Hb H S (upd Hb p o) (upd H p o) where
  b := Ex.new hb
  k := fun a u e _ => Ex.new hp _ _ e
  n := fun a u e => by
    by_cases q : a = p
    · subst q; exact .inr (.inl hp)
    · rw [upd_ne q] at e; exact .inl e
  s := fun _ h => .inl h
  t := fun _ h => Ex.back (.new hp) h
  f := fun _ _ _ h => Ex.new hp _ _ h
end
end Vd
/-! Vf5: tuples and texts, repeated many times. -/
namespace Vd
open PySem PySem.Spec PyProof.Rows L2
section
variable {X : Cx}
theorem rep_len {α : Type} (xs : List α) (m : Nat) : (List.replicate m xs).flatten.length = m * xs.length := by
  induction m with
  | zero => simp
  | succ m ih => rw [List.replicate_succ, List.flatten_cons, List.length_append, ih, Nat.succ_mul, Nat.add_comm]
theorem op_repT2 : OpR X (binaryOp .Mult) (fun x y H Q => ∃ l k xs, x = .ref l ∧ y = .int k ∧ SqT X.K H l xs ∧ xs ≠ [] ∧ 2 ≤ k ∧ k < 2 ^ 60 ∧ xs.length * k.toNat ≤ sizeLine ∧ ∀ p, H p = none → Q (.ref p) (upd H p (.tup (List.replicate k.toNat xs).flatten))) := by
  intro pins s σ H x y v u Q I rx ry h
  obtain ⟨l, k, xs, rfl, rfl, hT, hne, h1, h2, hz, q⟩ := h
  cases rx
  obtain ⟨t, rfl⟩ := ry
  obtain ⟨its, r, ⟨⟨cls, dd, data, sl⟩, ho, hc, n, hd⟩, _⟩ := I.tuple hT
  simp only at hc hd
  subst hc hd
  have le : its.length = xs.length := r.length.symm
  have ne : its.toArray.isEmpty = false := by
    cases its with
    | nil => exact absurd (List.eq_nil_of_length_eq_zero le.symm) hne
    | cons a b => rfl
  have sz : its.toArray.size = xs.length := by rw [List.size_toArray, le]
  obtain ⟨m, rfl⟩ := Int.eq_ofNat_of_zero_le (show 0 ≤ k by omega)
  have tm : (((m : Nat) : Int)).toNat = m := Int.toNat_natCast m
  have hm : ((its.toArray.size : Nat) : Int) * (m : Int) ≤ (sizeLine : Nat) := by
    rw [sz, ← Int.natCast_mul]
    rw [tm] at hz
    exact Int.ofNat_le.mpr hz
  have b24 : (sizeLine : Int) = 16777216 := by rw [sizeLine_eq]; rfl
  have fl : (List.replicate (m : Int).toNat its).flatten.length ≤ sizeLine := by
    rw [rep_len, le, Nat.mul_comm]
    exact hz
  have c0 : (decide ((m : Int) < -(2 ^ 63)) || decide ((m : Int) ≥ 2 ^ 63)) = false := by
    rw [Bool.or_eq_false_iff]
    exact ⟨decide_eq_false (by omega), decide_eq_false (by omega)⟩
  have c1 : (its.toArray.isEmpty || (m : Int) == 1) = false := by
    rw [ne, Bool.false_or]
    exact beq_eq_false_iff_ne.mpr (by omega)
  have c2 : (decide ((m : Int) ≤ 0) || its.toArray.isEmpty) = false := by
    rw [ne, Bool.or_false]
    exact decide_eq_false (by omega)
  have c4 : Builtin.Tuple.tupleTooMany (((its.toArray.size : Nat) : Int) * (m : Int)) = false := by
    unfold Builtin.Tuple.tupleTooMany
    exact decide_eq_false (by omega)
  have call := tuple_mulW l its.toArray n dd sl (m : Int) t c0 c1 c2 (by omega) c4
    (by rw [size_rep, List.size_toArray]; exact fl)
  refine wpAny_binaryOp_repeat_ref (T := "tuple") (U := "int") (by decide) ⟨_, ho, rfl⟩
    (fun s' => typeIs_int s' (m : Int) t) noFill_tuple_mul F.fills_int_mul F.slot_int_rmul repeat_tuple F.slot_int_index.lookup ?_
  refine call_meets F.slot_int_rmul (typeIs_int s (m : Int) t) F.entry_int_rmul (F.args_int_rmul_2 _ _)
    (int_rmul_tuple (m : Int) t l its.toArray n dd sl) ⟨ho, rfl, ⟨_, ho, rfl⟩, ?_⟩
  refine call_meets F.slot_tuple_mul ⟨_, ho, rfl⟩ F.entry_tuple_mul (F.args_tuple_mul_2 _ _) call ⟨ho, ?_⟩
  rw [size_rep]
  refine ⟨.ref s.heap.objs.size, _, I.laid (t' := s.toks) (o := .tup (List.replicate (m : Int).toNat xs).flatten)
    (fun b ob q => Heap.get?_push_of_some _ q) (Nat.le_refl _) ?_, rfl, q _ (I.hok.fresh (Nat.le_refl _))⟩
  refine ⟨?_, _, r.rep (m : Int).toNat, IsTup.new _ _⟩
  rw [rep_len, Nat.mul_comm]
  exact hz
theorem fold_rep (l : List Nat) : ∀ (m : Nat) (acc : Array Nat), (List.replicate m l.toArray).foldl (· ++ ·) acc = acc ++ (List.replicate m l).flatten.toArray
  | 0, acc => by simp
  | m + 1, acc => by
    rw [List.replicate_succ, List.foldl_cons, fold_rep l m, List.replicate_succ, List.flatten_cons]
    simp
theorem op_repS : OpR X (binaryOp .Mult) (fun x y H Q => ∃ (l : List Nat) (k : Int), x = .str (sT l) ∧ y = .int k ∧ l ≠ [] ∧ 2 ≤ k ∧ k < 2 ^ 60 ∧ l.length * k.toNat ≤ sizeLine ∧ Q (.str (sT (List.replicate k.toNat l).flatten)) H) := by
  intro pins s σ H x y v u Q I rx ry h
  obtain ⟨l, k, rfl, rfl, hne, h1, h2, hz, q⟩ := h
  obtain ⟨t, rfl⟩ := rx
  obtain ⟨t', rfl⟩ := ry
  obtain ⟨m, rfl⟩ := Int.eq_ofNat_of_zero_le (show 0 ≤ k by omega)
  have tm : (((m : Nat) : Int)).toNat = m := Int.toNat_natCast m
  have len : (sT l).length = l.length := by show l.toArray.size = _; simp
  have pos : 0 < l.length := List.length_pos_iff.mpr hne
  have b24 : sizeLine = 16777216 := sizeLine_eq
  have lm : l.length ≤ 16777216 := by
    rw [tm] at hz
    have : l.length * 1 ≤ l.length * m := Nat.mul_le_mul_left _ (by omega)
    omega
  have one : ((m : Int) == 1 || (sT l).length == 0) = false := by
    rw [len, Bool.or_eq_false_iff]
    exact ⟨beq_eq_false_iff_ne.mpr (by omega), beq_eq_false_iff_ne.mpr (by omega)⟩
  refine PySem.P.mul_str (by
    rw [Bool.or_eq_false_iff]
    exact ⟨decide_eq_false (by omega), decide_eq_false (by omega)⟩) (fun _ _ z => ?_) (fun _ _ => ?_) ?_
  · rw [len] at z
    have hq : (l.length : Int) * (m : Int) ≤ 2 ^ 62 := by
      rw [← Int.natCast_mul]
      rw [tm] at hz
      omega
    have := Int.lt_of_lt_of_le (Int.lt_mul_of_ediv_lt (show (0 : Int) < (m : Int) by omega) z) hq
    omega
  · unfold Builtin.Str.tooLong
    rw [len]
    exact decide_eq_false (by omega)
  · rw [if_neg (by omega), if_neg (by rw [one]; exact Bool.false_ne_true)]
    have e : (⟨(List.replicate (m : Int).toNat (sT l).cps).foldl (· ++ ·) #[]⟩ : Str) = sT (List.replicate (m : Int).toNat l).flatten := by
      show (⟨(List.replicate (m : Int).toNat l.toArray).foldl (· ++ ·) #[]⟩ : Str) = _
      rw [fold_rep]
      simp [sT]
    rw [e]
    have el : (sT (List.replicate (m : Int).toNat l).flatten).length ≤ sizeLine := by
      show ((List.replicate (m : Int).toNat l).flatten.toArray).size ≤ sizeLine
      rw [List.size_toArray, rep_len, Nat.mul_comm]
      exact hz
    exact ⟨el, .str (sT (List.replicate (m : Int).toNat l).flatten), H, I.tok _, ⟨_, rfl⟩, q⟩
end
end Vd
/-! Vf7: tuples times nought and one. -/
namespace Vd
open PySem PySem.Spec PyProof.Rows L2
section
variable {X : Cx}
theorem tuple_mul1 (l : Addr) (items : Array Value) (n : Nat) (dd : Option Addr) (sl : Array (Option Value)) (u : Tok) :
    Meets (Builtin.«tuple.__mul__» ⟨[.ref l, .int 1 u], []⟩) (fun _ R s => s.heap.get? l = some { cls := .type "tuple", dict := dd, data := .seq items n, slots := sl } ∧
      R (.ok (.ret (Value.ref l))) s) :=
  .of_wp fun prog w A R s h => by
    obtain ⟨hp, g, d, tk, os⟩ := s
    obtain ⟨hl, h⟩ := h
    have f1 := AutoSeq1.idx_int
    have c0 : (decide ((1 : Int) < -(2 ^ 63)) || decide ((1 : Int) ≥ 2 ^ 63)) = false := by decide
    have c1 : (items.isEmpty || (1 : Int) == 1) = true := by simp
    wp_walk using wpAny_loadPart' hl
    repeat (first
      | (refine wpAny_ite_false (decide_eq_false (by rw [c0]; exact Bool.false_ne_true)) ?_; wp_walk using wpAny_loadPart' hl)
      | (refine wpAny_ite_true (decide_eq_true c1) ?_; wp_walk using wpAny_loadPart' hl))
    all_goals exact ⟨_, rfl, h⟩
theorem tuple_mul0 (l : Addr) (items : Array Value) (n : Nat) (dd : Option Addr) (sl : Array (Option Value)) (u : Tok) (hne : items.isEmpty = false) :
    Meets (Builtin.«tuple.__mul__» ⟨[.ref l, .int 0 u], []⟩) (fun _ R s => s.heap.get? l = some { cls := .type "tuple", dict := dd, data := .seq items n, slots := sl } ∧
      R (.ok (.ret (Value.ref s.heap.objs.size))) { s with heap := s.heap.push { cls := Value.type "tuple", data := Data.seq #[] }, toks := s.toks }) :=
  .of_wp fun prog w A R s h => by
    obtain ⟨hp, g, d, tk, os⟩ := s
    obtain ⟨hl, h⟩ := h
    have f1 := AutoSeq1.idx_int
    have c0 : (decide ((0 : Int) < -(2 ^ 63)) || decide ((0 : Int) ≥ 2 ^ 63)) = false := by decide
    have c1 : (items.isEmpty || (0 : Int) == 1) = false := by rw [hne]; rfl
    have c2 : (decide ((0 : Int) ≤ 0) || items.isEmpty) = true := by simp
    wp_walk using wpAny_loadPart' hl
    repeat (first
      | (refine wpAny_ite_false (decide_eq_false (by rw [c0]; exact Bool.false_ne_true)) ?_; wp_walk using wpAny_loadPart' hl)
      | (refine wpAny_ite_false (decide_eq_false (by rw [c1]; exact Bool.false_ne_true)) ?_; wp_walk using wpAny_loadPart' hl)
      | (refine wpAny_ite_true (decide_eq_true c2) ?_; wp_walk using wpAny_loadPart' hl))
    all_goals exact ⟨_, rfl, h⟩
theorem op_repT1 : OpR X (binaryOp .Mult) (fun x y H Q => ∃ l xs, x = .ref l ∧ y = .int 1 ∧ SqT X.K H l xs ∧ Q (.ref l) H) := by
  intro pins s σ H x y v u Q I rx ry h
  obtain ⟨l, xs, rfl, rfl, hT, q⟩ := h
  cases rx
  obtain ⟨t, rfl⟩ := ry
  obtain ⟨its, r, ⟨⟨cls, dd, data, sl⟩, ho, hc, n, hd⟩, _⟩ := I.tuple hT
  simp only at hc hd
  subst hc hd
  refine wpAny_binaryOp_repeat_ref (T := "tuple") (U := "int") (by decide) ⟨_, ho, rfl⟩
    (fun s' => typeIs_int s' 1 t) noFill_tuple_mul F.fills_int_mul F.slot_int_rmul repeat_tuple F.slot_int_index.lookup ?_
  refine call_meets F.slot_int_rmul (typeIs_int s 1 t) F.entry_int_rmul (F.args_int_rmul_2 _ _)
    (int_rmul_tuple 1 t l its.toArray n dd sl) ⟨ho, rfl, ⟨_, ho, rfl⟩, ?_⟩
  refine call_meets F.slot_tuple_mul ⟨_, ho, rfl⟩ F.entry_tuple_mul (F.args_tuple_mul_2 _ _) (tuple_mul1 l its.toArray n dd sl t) ⟨ho, ?_⟩
  exact ⟨.ref l, H, I, rfl, q⟩
theorem op_repT0 : OpR X (binaryOp .Mult) (fun x y H Q => ∃ l xs, x = .ref l ∧ y = .int 0 ∧ SqT X.K H l xs ∧ xs ≠ [] ∧ ∀ p, H p = none → Q (.ref p) (upd H p (.tup []))) := by
  intro pins s σ H x y v u Q I rx ry h
  obtain ⟨l, xs, rfl, rfl, hT, hne, q⟩ := h
  cases rx
  obtain ⟨t, rfl⟩ := ry
  obtain ⟨its, r, ⟨⟨cls, dd, data, sl⟩, ho, hc, n, hd⟩, _⟩ := I.tuple hT
  simp only at hc hd
  subst hc hd
  have le : its.length = xs.length := r.length.symm
  have ne : its.toArray.isEmpty = false := by
    cases its with
    | nil => exact absurd (List.eq_nil_of_length_eq_zero le.symm) hne
    | cons a b => rfl
  refine wpAny_binaryOp_repeat_ref (T := "tuple") (U := "int") (by decide) ⟨_, ho, rfl⟩
    (fun s' => typeIs_int s' 0 t) noFill_tuple_mul F.fills_int_mul F.slot_int_rmul repeat_tuple F.slot_int_index.lookup ?_
  refine call_meets F.slot_int_rmul (typeIs_int s 0 t) F.entry_int_rmul (F.args_int_rmul_2 _ _)
    (int_rmul_tuple 0 t l its.toArray n dd sl) ⟨ho, rfl, ⟨_, ho, rfl⟩, ?_⟩
  refine call_meets F.slot_tuple_mul ⟨_, ho, rfl⟩ F.entry_tuple_mul (F.args_tuple_mul_2 _ _) (tuple_mul0 l its.toArray n dd sl t ne) ⟨ho, ?_⟩
  refine ⟨.ref s.heap.objs.size, _, I.laid (t' := s.toks) (o := .tup []) (fun b ob q => Heap.get?_push_of_some _ q) (Nat.le_refl _) ?_, rfl, q _ (I.hok.fresh (Nat.le_refl _))⟩
  exact ⟨by show 0 ≤ sizeLine; omega, _, .nil, IsTup.new _ _⟩
/-- repr(None) -/
theorem call_repr_none : CallR X (.builtin "repr") (fun xs H Q => xs = [.non] ∧ Q (.str "None") H) := by
  intro pins s σ H xs us Q I r h
  obtain ⟨rfl, q⟩ := h
  obtain ⟨u, rfl, r1⟩ := vals1 r
  cases r1
  exact PySem.P.repr_of_none ⟨.str _, H, I.tok _, ⟨_, rfl⟩, q⟩
end
end Vd
/-! Vd2: the small language and what it computes. -/
namespace Vd
open PySem L2

structure XD where
  c : Nat
  fs : List (Nat × D)
  deriving Inhabited
inductive R (α : Type) where
  | ok (a : α) (e : VE)
  | rz (x : XD) (e : VE)
  | no
def R.bind {α β : Type} (r : R α) (f : α → VE → R β) : R β :=
  match r with
  | .ok a e => f a e
  | .rz x e => .rz x e
  | .no => .no
@[simp] theorem R.bind_ok {α β : Type} (a : α) (e : VE) (f : α → VE → R β) : (R.ok a e).bind f = f a e := rfl
@[simp] theorem R.bind_rz {α β : Type} (x : XD) (e : VE) (f : α → VE → R β) : (R.rz x e : R α).bind f = .rz x e := rfl
@[simp] theorem R.bind_no {α β : Type} (f : α → VE → R β) : (R.no : R α).bind f = .no := rfl
/-- no exception passes -/
def R.calm {α : Type} : R α → R α
  | .rz _ _ => .no
  | r => r
@[simp] theorem R.calm_ok {α : Type} (a : α) (e : VE) : (R.ok a e).calm = .ok a e := rfl
@[simp] theorem R.calm_no {α : Type} : (R.no : R α).calm = .no := rfl
/-- a value while an expression is computed: data | what the slot i holds | a new object that nobody else knows -/
inductive Val where
  | p (d : D)
  | vw (i : Nat)
  | fr (c : OC)
  deriving Inhabited
inductive Arg where
  | p (d : D)
  | o (k : Bool) (c : OC)
  deriving Inhabited
def Arg.ss : Arg → SS
  | .p d => .dat d
  | .o k c => .own true k c
inductive Ret where
  | p (d : D)
  | fr (c : OC)
  deriving Inhabited
inductive RF where
  | ok (r : Ret) (l : List Arg)
  | rz (x : XD) (l : List Arg)
  | no
def SS.rd : SS → Option D
  | .un => none
  | .dat d => some d
  | .own _ _ c => some c.toD
def rd (e : VE) : Val → Option D
  | .p d => some d
  | .vw i => (e[i]?).bind SS.rd
  | .fr c => some c.toD

inductive O2 where | add | sub | mul | fdiv | mod | pow
  deriving DecidableEq
inductive Cq where | eq | ne | lt | le | gt | ge | isin | notin | is | isnt
  deriving DecidableEq
inductive Ty where | int | str | bool | tuple | list | dict | own (c : Nat)
  deriving DecidableEq
inductive B1 where | len | int | str | bool | tuple | list | all | any | sum | ord | chr | repr | setlen | max | min | abs | lrg | dget | reprd
  deriving DecidableEq
inductive M1 where | append | extend | pop | insert | index | count | join | split | startswith | partition | find | get | setdefault
  deriving DecidableEq
inductive Pm where | startswith | endswith | find | count | index | partition | split | join
  deriving DecidableEq
inductive Ik where | seq | rng | enum | zip | rev | rrng | items
  deriving DecidableEq
inductive TG where
  | nm (i : Nat)
  | tp (l : List TG)
inductive T where
  | var (i : Nat)
  | int (i : Int)
  | bl (b : Bool)
  | non
  | str (l : List Nat)
  | con (k : Nat)
  | bin (o : O2) (a b : T)
  | cmp (o : Cq) (a b : T)
  | chn (o p : Cq) (a b c : T)
  | and (a b : T)
  | or (a b : T)
  | not (a : T)
  | neg (a : T)
  | ite (c a b : T)
  | tup (l : List T)
  | lst (l : List T)
  | dct (ks : List DK) (l : List T)
  | ix (a b : T)
  | sl (a : T) (lo hi : Option T)
  | call (f : Nat) (l : List T)
  | bi (b : B1) (l : List T)
  | mt (m : M1) (a : T) (l : List T)
  | pm (m : Pm) (a : T) (l : List T)
  | rvl (a : T)
  | isi (a : T) (ts : List Ty)
  | lc (e : T) (g : TG) (k : Ik) (l : List T) (c : Option T) (own : List Nat)
  | fld (a : T) (n : Nat)
  | isx (a : T) (cs : List Nat)
  | frz (a : T)
  | told (f : Nat) (t : T)
  | lcit (e : T) (g : TG) (i : Nat) (c : Option T) (own : List Nat)
inductive S where
  | set (i : Nat) (e : T)
  | par (l : List Nat) (es : List T)
  | unp (g : TG) (e : T)
  | sub (a i e : T)
  | exp (e : T)
  | ret (e : T)
  | retn
  | ifs (c : T) (a b : List S)
  | fors (g : TG) (k : Ik) (l : List T) (b : List S)
  | whl (n : Nat) (c : T) (b : List S)
  | brk
  | cnt
  | pas
  | bad
  | rse (c : Nat) (l : List T)
  | tryc (b : List S) (cs : List Nat) (i : Option Nat) (s : List S) (cs2 : List Nat) (i2 : Option Nat) (s2 : List S)
  | forit (g : TG) (i : Nat) (b : List S)
  deriving Inhabited
/-- what the text's names stand for -/
structure CE where
  con : Nat → D
  fn : Nat → List Arg → RF
  sub : Nat → Nat → Option Bool := fun _ _ => none
  flds : Nat → List Nat := fun _ => []
  kno : Nat → Bool := fun _ => false
  tl : Nat → Option XD → Option OC := fun _ _ => none
/-- what a def tells of a lambda that it is handed -/
def toldR (tl : Option XD → Option OC) : R Val → R Val
  | .ok _ e => match tl none with
    | some c => .ok (.fr c) e
    | none => .no
  | .rz x e => match tl (some x) with
    | some c => .ok (.fr c) e
    | none => .no
  | .no => .no

/-! ### operations on data -/
abbrev big : Int := 18446744073709551616
def line : Nat := 16777216
/-- intsD, texts, lists, tuples -/
def bop : O2 → D → D → Option Val
  | .add, .int i, .int j => some (.p (.int (i + j)))
  | .add, .str a, .str b => if a.length + b.length ≤ line then some (.p (.str (a ++ b))) else none
  | .add, .lst a, .lst b => if a.length + b.length ≤ line then some (.fr (.ol (a ++ b))) else none
  | .add, .tup a, .tup b => if a.length + b.length ≤ line then some (.p (.tup (a ++ b))) else none
  | .sub, .int i, .int j => some (.p (.int (i - j)))
  | .mul, .int i, .int j => if (-big < i ∧ i < big) ∨ (-big < j ∧ j < big) then some (.p (.int (i * j))) else none
  | .mul, .lst a, .int k => if -(2 ^ 62) ≤ k ∧ k < 2 ^ 62 ∧ a.length * k.toNat ≤ line then some (.fr (.ol (List.replicate k.toNat a).flatten)) else none
  | .mul, .tup a, .int k => if a.isEmpty = false ∧ 0 ≤ k ∧ k < 2 ^ 60 ∧ a.length * k.toNat ≤ line then some (.p (.tup (List.replicate k.toNat a).flatten)) else none
  | .mul, .str a, .int k => if a.isEmpty = false ∧ 2 ≤ k ∧ k < 2 ^ 60 ∧ a.length * k.toNat ≤ line then some (.p (.str (List.replicate k.toNat a).flatten)) else none
  | .fdiv, .int i, .int j => if 0 < j ∧ j < 1073741824 then some (.p (.int (i / j))) else none
  | .mod, .int i, .int j => if 0 < j then some (.p (.int (i % j))) else none
  | .pow, .int i, .int j => if 0 ≤ j ∧ j ≤ 1000000 ∧ i.natAbs < 2 ^ 64 then some (.p (.int (i ^ j.toNat))) else none
  | _, _, _ => none
mutual
/-- == of data (no instances, no dicts) -/
def deq : D → D → Bool
  | .non, .non => true
  | .bl a, .bl b => a == b
  | .int i, .int j => i == j
  | .bl a, .int j => (if a then 1 else 0) == j
  | .int i, .bl b => i == (if b then 1 else 0)
  | .str a, .str b => a == b
  | .lst a, .lst b => deqs a b
  | .tup a, .tup b => deqs a b
  | _, _ => false
def deqs : List D → List D → Bool
  | [], [] => true
  | a :: l, b :: m => deq a b && deqs l m
  | _, _ => false
end
mutual
/-- plain data: no instances, no dicts -/
def plain : D → Bool
  | .lst l => plains l
  | .tup l => plains l
  | .dct _ => false
  | .ins _ _ => false
  | .exc _ _ => false
  | .th _ => false
  | _ => true
def plains : List D → Bool
  | [] => true
  | d :: l => plain d && plains l
end
mutual
def dep : D → Nat
  | .lst l => deps l + 1
  | .tup l => deps l + 1
  | _ => 0
def deps : List D → Nat
  | [] => 0
  | d :: l => Nat.max (dep d) (deps l)
end
/-- may the two be compared by == -/
def eqOk (a b : D) : Bool := plain a && plain b && decide (Nat.min (dep a) (dep b) ≤ 40)
def inOk (a : D) (l : List D) : Bool := plain a && plains l && decide (Nat.min (deps l) (dep a) ≤ 40)
def inD (a : D) (l : List D) : Bool := l.any fun y => deq y a
def look (k : DK) : List (DK × D) → Option D
  | [] => none
  | (j, d) :: r => if j = k then some d else look k r
def hasK (k : DK) (l : List (DK × D)) : Bool := (look k l).isSome
def putD (l : List (DK × D)) (k : DK) (v : D) : List (DK × D) :=
  if l.any (fun p => decide (p.1 = k)) then l.map (fun p => if p.1 = k then (p.1, v) else p) else l ++ [(k, v)]
def keyOf : D → Option DK
  | .int i => some (.inl i)
  | .str l => some (.inr l)
  | _ => none
def isNon : D → Bool
  | .non => true
  | _ => false
def cop : Cq → D → D → Option Bool
  | .eq, a, b => if eqOk a b then some (deq a b) else none
  | .ne, a, b => if eqOk a b then some (!deq a b) else none
  | .lt, .int i, .int j => some (decide (i < j))
  | .le, .int i, .int j => some (decide (i ≤ j))
  | .gt, .int i, .int j => some (decide (j < i))
  | .ge, .int i, .int j => some (decide (j ≤ i))
  | .lt, .str i, .str j => some (decide (i < j))
  | .le, .str i, .str j => some (!decide (j < i))
  | .gt, .str i, .str j => some (decide (j < i))
  | .ge, .str i, .str j => some (!decide (i < j))
  | .is, a, .non => some (isNon a)
  | .isnt, a, .non => some (!isNon a)
  | .is, .bl a, .bl b => some (a == b)
  | .isnt, .bl a, .bl b => some (a != b)
  | .isin, a, .lst l => if inOk a l then some (inD a l) else none
  | .isin, a, .tup l => if inOk a l then some (inD a l) else none
  | .isin, .str [c], .str l => some (decide (c ∈ l))
  | .isin, k, .dct l => (keyOf k).map fun k => hasK k l
  | .notin, a, .lst l => if inOk a l then some (!inD a l) else none
  | .notin, a, .tup l => if inOk a l then some (!inD a l) else none
  | .notin, .str [c], .str l => some (!decide (c ∈ l))
  | .notin, k, .dct l => (keyOf k).map fun k => !hasK k l
  | _, _, _ => none
def tru : D → Option Bool
  | .non => some false
  | .bl b => some b
  | .int i => some (i != 0)
  | .str l => some (!l.isEmpty)
  | .lst l => some (!l.isEmpty)
  | .tup l => some (!l.isEmpty)
  | .dct _ => none
  | .ins _ _ => none
  | .exc _ _ => none
  | .th _ => none
/-- the place that an index means -/
def ixn (n : Nat) (i : Int) : Option Nat := if 0 ≤ i then (if i < n then some i.toNat else none) else if -(n : Int) ≤ i then some (i + n).toNat else none
def item : D → D → Option D
  | .lst l, .int i => (ixn l.length i).bind fun j => l[j]?
  | .tup l, .int i => (ixn l.length i).bind fun j => l[j]?
  | .str l, .int i => (ixn l.length i).bind fun j => (l[j]?).map fun c => .str [c]
  | .dct l, k => (keyOf k).bind fun k => look k l
  | _, _ => none
/-- a bound of a slice -/
def clip (n d : Nat) : Option Int → Nat
  | none => d
  | some v => if v < 0 then (v + (n : Int)).toNat else min v.toNat n
def cut {α : Type} (l : List α) (lo hi : Option Int) : List α := (l.drop (clip l.length 0 lo)).take (clip l.length l.length hi - clip l.length 0 lo)
def slice : D → Option Int → Option Int → Option Val
  | .lst l, lo, hi => some (.fr (.ol (cut l lo hi)))
  | .tup l, lo, hi => some (.p (.tup (cut l lo hi)))
  | .str l, lo, hi => some (.p (.str (cut l lo hi)))
  | _, _, _ => none
def isTy : D → Ty → Option Bool
  | .ins _ _, _ => none
  | .exc _ _, _ => none
  | .th _, _ => none
  | _, .own _ => none
  | .int _, .int => some true
  | .bl _, .int => some true
  | .bl _, .bool => some true
  | .str _, .str => some true
  | .tup _, .tuple => some true
  | .lst _, .list => some true
  | .dct _, .dict => some true
  | _, _ => some false
def isTys (d : D) : List Ty → Option Bool
  | [] => some false
  | t :: r => match isTy d t with
    | some true => some true
    | some false => isTys d r
    | none => none
def allB : List D → Option Bool
  | [] => some true
  | .bl b :: l => (allB l).map fun c => b && c
  | _ => none
def anyB : List D → Option Bool
  | [] => some false
  | .bl b :: l => (anyB l).map fun c => b || c
  | _ => none
def intsD : List D → Option (List Int)
  | [] => some []
  | .int i :: l => (intsD l).map (i :: ·)
  | _ => none
def strsD : List D → Option (List (List Nat))
  | [] => some []
  | .str s :: l => (strsD l).map (s :: ·)
  | _ => none
def lenD : D → Option Nat
  | .lst l => some l.length
  | .tup l => some l.length
  | .str l => some l.length
  | _ => none
/-- texts as codes -/
def oS (s : Str) : List Nat := s.cps.toList
def strV (s : Str) : Option D := if s.length ≤ line then some (.str (oS s)) else none
/-- no object of its own -/
def flat : D → Bool
  | .str _ => true
  | .int _ => true
  | .bl _ => true
  | .non => true
  | _ => false
/-- built-ins on data -/
def dedI (ns : List Int) : List Int := ns.foldl (fun acc n => if acc.any (· == n) then acc else acc ++ [n]) []
/-- the least of some ints -/
def minI : List Int → Option Int
  | [] => none
  | i :: l => match minI l with
    | none => some i
    | some m => some (if m < i then m else i)
mutual
def toPy : D → PyData
  | .non => .none
  | .bl b => .bool b
  | .int i => .int i
  | .str l => .str (sT l)
  | .tup l => .tuple (toPys l)
  | .lst l => .list (toPys l)
  | .dct _ => .none
  | .ins _ _ => .none
  | .exc _ _ => .none
  | .th _ => .none
def toPys : List D → List PyData
  | [] => []
  | d :: l => toPy d :: toPys l
end
def seqD : D → Bool
  | .lst _ => true
  | .tup _ => true
  | _ => false
def bfn : B1 → List D → Option Val
  | .len, [d] => (lenD d).map fun n => .p (.int n)
  | .int, [.int i] => some (.p (.int i))
  | .int, [.bl b] => some (.p (.int (if b then 1 else 0)))
  | .tuple, [.lst l] => some (.p (.tup l))
  | .tuple, [.tup l] => some (.p (.tup l))
  | .list, [.lst l] => some (.fr (.ol l))
  | .list, [.tup l] => some (.fr (.ol l))
  | .all, [.lst l] => (allB l).map fun b => .p (.bl b)
  | .any, [.lst l] => (anyB l).map fun b => .p (.bl b)
  | .sum, [.lst l] => (intsD l).map fun ns => .p (.int ns.sum)
  | .ord, [.str [c]] => some (.p (.int c))
  | .setlen, [.lst l] => (intsD l).bind fun ns => if ns.length ≤ 4000 then some (.p (.int (dedI ns).length)) else none
  | .str, [.int i] => if i.natAbs < 2 ^ 64 then (strV (Str.ofString (toString i))).map .p else none
  | .str, [.str s] => some (.p (.str s))
  | .repr, [.int i] => if i.natAbs < 2 ^ 64 then (strV (Str.ofString (toString i))).map .p else none
  | .repr, [.non] => some (.p (.str [78, 111, 110, 101]))
  | .min, [.int i, .int j] => some (.p (.int (if j < i then j else i)))
  | .max, [.int i, .int j] => some (.p (.int (if j > i then j else i)))
  | .min, [.lst l] => (intsD l).bind fun ns => (minI ns).map fun m => .p (.int m)
  | .lrg, [.int n, .int m, .int k] => if k = -1 ∧ -(2 ^ 61) ≤ n ∧ n ≤ line ∧ -(2 ^ 61) ≤ m ∧ m ≤ line ∧ n - m ≤ line then some (.fr (.ol ((List.range (n - m).toNat).map fun j => .int (n + (j : Nat) * (-1))))) else none
  | .reprd, [d] => if seqD d = true ∧ plain d = true ∧ dep d ≤ 20 ∧ (toPy d).showable = true then (strV (toPy d).shown).map .p else none
  | .dget, [.dct l, k, d] => if flat d = true then (keyOf k).map fun k => .p ((look k l).getD d) else none
  | _, _ => none
def strVs : List Str → Option (List D)
  | [] => some []
  | s :: l => (strV s).bind fun d => (strVs l).map (d :: ·)
def strsOf : D → Option (List (List Nat))
  | .lst l => strsD l
  | .tup l => strsD l
  | _ => none
/-- methods of texts -/
def pfn : Pm → D → List D → Option Val
  | .startswith, .str a, [.str b] => some (.p (.bl (Txt.startswith (sT a) (sT b))))
  | .endswith, .str a, [.str b] => some (.p (.bl (Txt.endswith (sT a) (sT b))))
  | .find, .str a, [.str b] => some (.p (.int (Txt.find (sT a) (sT b))))
  | .count, .str a, [.str b] => some (.p (.int (Txt.count (sT a) (sT b))))
  | .index, .str a, [.str b] => match Builtin.Str.occurrences (sT a) (sT b) 0 (sT a).length 1 with
    | i :: _ => some (.p (.int (i : Nat)))
    | [] => none
  | .partition, .str a, [.str b] => if b.isEmpty = false then
      (strV (Txt.partition (sT a) (sT b)).1).bind fun x => (strV (Txt.partition (sT a) (sT b)).2.1).bind fun y => (strV (Txt.partition (sT a) (sT b)).2.2).bind fun z => some (.p (.tup [x, y, z])) else none
  | .split, .str a, [.str b] => if b.isEmpty = false ∧ a.length + 2 ≤ line then (strVs (Txt.split (sT a) (sT b))).map fun l => .fr (.ol l) else none
  | .join, .str a, [d] => (strsOf d).bind fun ys => if (ys.map List.length).sum + ys.length * a.length ≤ line then (strV (Txt.join (sT a) (ys.map sT))).map .p else none
  | _, _, _ => none
def revF : D → Option Val
  | .lst l => some (.fr (.ol l.reverse))
  | .tup l => some (.p (.tup l.reverse))
  | _ => none
def strO : D → Option Unit
  | .str _ => some ()
  | _ => none
/-- what a for walks: the values, the slots that are locked meanwhile -/
def seqOf : D → Option (List D)
  | .lst l => some l
  | .tup l => some l
  | .str l => some (l.map fun c => .str [c])
  | _ => none
def rngOf : List D → Option (List D)
  | [.int n] => if -(2 ^ 61) ≤ n ∧ n ≤ line then some ((List.range n.toNat).map fun k => .int (k : Nat)) else none
  | [.int a, .int b] => if -(2 ^ 61) ≤ a ∧ a ≤ 2 ^ 61 ∧ b - a ≤ line ∧ -(2 ^ 61) ≤ b ∧ b ≤ 2 ^ 61 then some ((List.range (b - a).toNat).map fun (k : Nat) => .int (a + (k : Int))) else none
  | [.int a, .int b, .int c] => if c = -1 ∧ -(2 ^ 61) ≤ a ∧ a ≤ 2 ^ 61 ∧ a - b ≤ line ∧ -(2 ^ 61) ≤ b ∧ b ≤ 2 ^ 61 then some ((List.range (a - b).toNat).map fun (k : Nat) => .int (a + (k : Int) * (-1))) else none
  | _ => none
def rrngOf : List D → Option (List D)
  | [.int n] => if -(2 ^ 61) ≤ n ∧ n ≤ line then some ((List.range n.toNat).map fun (k : Nat) => .int ((n.toNat : Int) - 1 + (k : Int) * (-1))) else none
  | _ => none
def enumF : Nat → List D → List D
  | _, [] => []
  | n, d :: l => .tup [.int n, d] :: enumF (n + 1) l
def zipF : List D → List D → List D
  | a :: l, b :: m => .tup [a, b] :: zipF l m
  | _, _ => []
def itOf : Ik → List D → Option (List D)
  | .seq, [d] => seqOf d
  | .rng, l => rngOf l
  | .rrng, l => rrngOf l
  | .rev, [.lst l] => some l.reverse
  | .rev, [.tup l] => some l.reverse
  | .enum, [.lst l] => some (enumF 0 l)
  | .enum, [.tup l] => some (enumF 0 l)
  | .zip, [.lst l, .lst m] => some (zipF l m)
  | .zip, [.tup l, .tup m] => some (zipF l m)
  | .zip, [.tup l, .lst m] => some (zipF l m)
  | _, _ => none
/-- views among values: their slots -/
def vws : List Val → List Nat
  | [] => []
  | .vw i :: l => i :: vws l
  | _ :: l => vws l
def SS.lock (b : Bool) : SS → SS
  | .own x _ c => .own x b c
  | s => s
def SS.lk : SS → Bool
  | .own _ k _ => k
  | _ => false
def lockE (l : List Nat) (e : VE) : VE := l.foldl (fun e i => e.modify i (SS.lock true)) e
/-- the locks as they were in e0 -/
def unlockE (e0 : VE) (l : List Nat) (e : VE) : VE := l.foldl (fun e i => e.modify i (SS.lock ((e0[i]?).elim false SS.lk))) e
/-- may the slot be stored to -/
def SS.free : SS → Bool
  | .own true _ _ => false
  | .own _ true _ => false
  | _ => true
def putS (i : Nat) (s : SS) (e : VE) : Option VE := if (e[i]?).elim false SS.free = true then some (e.set i s) else none
mutual
def bindG : TG → D → VE → Option VE
  | .nm i, d, e => putS i (.dat d) e
  | .tp gs, .tup l, e => bindGs gs l e
  | .tp gs, .lst l, e => bindGs gs l e
  | .tp _, _, _ => none
def bindGs : List TG → List D → VE → Option VE
  | [], [], e => some e
  | g :: gs, d :: l, e => (bindG g d e).bind fun e => bindGs gs l e
  | _, _, _ => none
end
def wipeE (l : List Nat) (e : VE) : VE := l.foldl (fun e i => e.set i .un) e
/-- e behind a block whose own slots are l: those as they were ahead of it, in e0 -/
def backE (e0 : VE) (l : List Nat) (e : VE) : VE := l.foldl (fun e i => e.set i ((e0[i]?).getD .un)) e
def rds (e : VE) : List Val → Option (List D)
  | [] => some []
  | v :: l => (rd e v).bind fun d => (rds e l).map (d :: ·)
/-- the value as data that stays: an own object is never changed again -/
def fz (e : VE) : Val → Option (D × VE)
  | .p d => some (d, e)
  | .fr c => some (c.toD, e)
  | .vw i => match e[i]? with
    | some (.dat d) => some (d, e)
    | some (.own false false c) => some (c.toD, e.set i (.dat c.toD))
    | _ => none
def fzs : List Val → VE → Option (List D × VE)
  | [], e => some ([], e)
  | v :: l, e => (fz e v).bind fun p => (fzs l p.2).map fun q => (p.1 :: q.1, q.2)
/-- arguments handed to a def -/
def argOf (e : VE) : Val → Option Arg
  | .p d => some (.p d)
  | .fr c => some (.p c.toD)
  | .vw i => match e[i]? with
    | some (.dat d) => some (.p d)
    | some (.own _ k c) => some (.o k c)
    | _ => none
def argsOf (e : VE) : List Val → Option (List Arg)
  | [] => some []
  | v :: l => (argOf e v).bind fun a => (argsOf e l).map (a :: ·)
def SS.put (c : OC) : SS → SS
  | .own b k _ => .own b k c
  | s => s
/-- what lent objects hold behind the call -/
def putA : List Val → List Arg → VE → VE
  | .vw i :: l, .o _ c :: m, e => putA l m (e.modify i (SS.put c))
  | _ :: l, _ :: m, e => putA l m e
  | _, _, e => e
def Ret.val : Ret → Val
  | .p d => .p d
  | .fr c => .fr c
def callR (ce : CE) (f : Nat) (vs : List Val) (e : VE) : R Val :=
  if (vws vs).Nodup then
    match argsOf e vs with
    | some as => match ce.fn f as with
      | .ok r l => .ok r.val (putA vs l e)
      | .rz x l => .rz x (putA vs l e)
      | .no => .no
    | none => .no
  else .no
def ofO {α : Type} (o : Option α) (e : VE) : R α := match o with | some a => .ok a e | none => .no
@[simp] theorem ofO_some {α : Type} (a : α) (e : VE) : ofO (some a) e = .ok a e := rfl
@[simp] theorem ofO_none {α : Type} (e : VE) : ofO (none : Option α) e = .no := rfl
def ofP {α : Type} (o : Option (α × VE)) : R α := match o with | some p => .ok p.1 p.2 | none => .no
@[simp] theorem ofP_some {α : Type} (p : α × VE) : ofP (some p) = .ok p.1 p.2 := rfl
@[simp] theorem ofP_none {α : Type} : ofP (none : Option (α × VE)) = .no := rfl
def op1 {α : Type} (f : D → Option α) (x : Val) (e : VE) : R α := ofO ((rd e x).bind f) e
def op2 {α : Type} (f : D → D → Option α) (x y : Val) (e : VE) : R α := ofO ((rd e x).bind fun x => (rd e y).bind fun y => f x y) e
/-- methods of built-in types: the receiver, the arguments -/
def mfn (m : M1) (x : Val) (vs : List Val) (e : VE) : R Val :=
  match m, x, vs with
  | .append, .vw i, [v] => (ofP (fz e v)).bind fun d e => match e[i]? with
    | some (.own b false (.ol l)) => if l.length < line then .ok (.p .non) (e.set i (.own b false (.ol (l ++ [d])))) else .no
    | _ => .no
  | .extend, .vw i, [v] => match e[i]?, rd e v with
    | some (.own b false (.ol l)), some (.lst m) => if l.length + m.length ≤ line then .ok (.p .non) (e.set i (.own b false (.ol (l ++ m)))) else .no
    | some (.own b false (.ol l)), some (.tup m) => if l.length + m.length ≤ line then .ok (.p .non) (e.set i (.own b false (.ol (l ++ m)))) else .no
    | _, _ => .no
  | .pop, .vw i, [] => match e[i]? with
    | some (.own b false (.ol l)) => match l.getLast? with
      | some d => .ok (.p d) (e.set i (.own b false (.ol l.dropLast)))
      | none => .no
    | _ => .no
  | .insert, .vw i, [.p (.int k), v] => (ofP (fz e v)).bind fun d e => match e[i]? with
    | some (.own b false (.ol l)) => if l.length < line ∧ 0 ≤ k ∧ k < 2 ^ 63 then .ok (.p .non) (e.set i (.own b false (.ol (l.take k.toNat ++ [d] ++ l.drop k.toNat)))) else .no
    | _ => .no
  | _, _, _ => .no
/-- the type that has the method -/
def mOk : M1 → D → Option Unit
  | .append, .lst _ => some ()
  | .extend, .lst _ => some ()
  | .pop, .lst _ => some ()
  | .insert, .lst _ => some ()
  | _, _ => none
/-- the items of a dict whose keys are ints -/
def itemsD : List (DK × D) → Option (List D)
  | [] => some []
  | (.inl i, d) :: l => (itemsD l).map (.tup [.int i, d] :: ·)
  | _ => none
/-- .. and the dict at slot i is free again -/
def R.thaw {α : Type} (i : Nat) (s : SS) : R α → R α
  | .ok v e => .ok v (e.set i s)
  | _ => .no
/-- a comprehension's turns -/
def lcF (f : D → VE → R (Option D)) : List D → VE → R (List D)
  | [], e => .ok [] e
  | d :: l, e => (f d e).bind fun o e => (lcF f l e).bind fun r e => .ok (o.elim r (· :: r)) e
def boolOf : D → Option Bool
  | .bl b => some b
  | _ => none
def negOf : D → Option Val
  | .int i => some (.p (.int (-i)))
  | _ => none
def partOf : D → Option Int
  | .int i => some i
  | _ => none
def short (p : List D × VE) : Option (List D × VE) := if p.1.length ≤ line then some p else none
def blV (b : Bool) : Val := .p (.bl b)
def mkD (ks : List DK) (ds : List D) : List (DK × D) := (ks.zip ds).foldl (fun acc kv => putD acc kv.1 kv.2) []

/-- the class of an exception is one of these -/
def subAny (sub : Nat → Nat → Option Bool) (c : Nat) : List Nat → Option Bool
  | [] => some false
  | k :: r => match sub c k with
    | some true => some true
    | some false => subAny sub c r
    | none => none
/-- isinstance with classes of exceptions -/
def isX (ce : CE) (cs : List Nat) : D → Option Bool
  | .exc c _ => subAny ce.sub c cs
  | .ins _ _ => none
  | .th _ => none
  | _ => if cs.all ce.kno then some false else none
/-- a field of an exception that was caught -/
def fldD (ce : CE) (n : Nat) : D → Option Val
  | .exc c fs => if fs.map (·.1) = (ce.flds c).reverse then (fs.lookup n).map .p else none
  | _ => none
/-- what is walked: the values, the items -/
def itsOf (k : Ik) (vs : List Val) (e : VE) : R (List Val × List D) := ofO (((rds e vs).bind fun ds => itOf k ds).map fun its => (vs, its)) e
mutual
def ev (ce : CE) : T → VE → R Val
  | .var i, e => match e[i]? with
    | some (.dat d) => .ok (.p d) e
    | some (.own _ _ _) => .ok (.vw i) e
    | _ => .no
  | .int i, e => .ok (.p (.int i)) e
  | .bl b, e => .ok (.p (.bl b)) e
  | .non, e => .ok (.p .non) e
  | .str l, e => .ok (.p (.str l)) e
  | .con k, e => .ok (.p (ce.con k)) e
  | .bin o a b, e => (ev ce a e).bind fun x e => (ev ce b e).bind fun y e => op2 (bop o) x y e
  | .cmp o a b, e => (ev ce a e).bind fun x e => (ev ce b e).bind fun y e => (op2 (cop o) x y e).bind fun t e => .ok (blV t) e
  | .chn o p a b c, e => (ev ce a e).bind fun x e => (ev ce b e).bind fun y e => (op2 (cop o) x y e).bind fun t e =>
      if t = true then (ev ce c e).bind fun z e => (op2 (cop p) y z e).bind fun t e => .ok (blV t) e else .ok (blV false) e
  | .and a b, e => (ev ce a e).bind fun x e => (op1 boolOf x e).bind fun t e => if t = true then ev ce b e else .ok (blV false) e
  | .or a b, e => (ev ce a e).bind fun x e => (op1 boolOf x e).bind fun t e => if t = true then .ok (blV true) e else ev ce b e
  | .not a, e => (ev ce a e).bind fun x e => (op1 boolOf x e).bind fun t e => .ok (blV (!t)) e
  | .neg a, e => (ev ce a e).bind fun x e => op1 negOf x e
  | .ite c a b, e => (evT ce c e).bind fun t e => if t = true then ev ce a e else ev ce b e
  | .tup l, e => (evs ce l e).bind fun vs e => (ofP ((fzs vs e).bind short)).bind fun ds e => .ok (.p (.tup ds)) e
  | .lst l, e => (evs ce l e).bind fun vs e => (ofP ((fzs vs e).bind short)).bind fun ds e => .ok (.fr (.ol ds)) e
  | .dct ks l, e => (evs ce l e).bind fun vs e => (ofP (fzs vs e)).bind fun ds e => if ds.length ≤ 15 then .ok (.fr (.od (mkD ks ds))) e else .no
  | .ix a b, e => (ev ce a e).bind fun x e => (ev ce b e).bind fun y e => (op2 item x y e).bind fun d e => .ok (.p d) e
  | .rvl a, e => (ev ce a e).bind fun x e => op1 revF x e
  | .sl a lo hi, e => (ev ce a e).bind fun x e => (evo ce lo e).bind fun l e => (evo ce hi e).bind fun h e => op1 (fun x => slice x l h) x e
  | .call f l, e => (evs ce l e).bind fun vs e => callR ce f vs e
  | .bi b l, e => (evs ce l e).bind fun vs e => ofO ((rds e vs).bind fun ds => bfn b ds) e
  | .mt m a l, e => (ev ce a e).bind fun x e => (op1 (mOk m) x e).bind fun _ e => (evs ce l e).bind fun vs e => mfn m x vs e
  | .pm m a l, e => (ev ce a e).bind fun x e => (op1 strO x e).bind fun _ e => (evs ce l e).bind fun vs e => ofO ((rd e x).bind fun d => (rds e vs).bind fun ds => pfn m d ds) e
  | .isi a ts, e => (ev ce a e).bind fun x e => op1 (fun d => (isTys d ts).map blV) x e
  | .lc t g k l c own, e => ((evs ce l e).bind (itsOf k)).bind fun p e0 =>
      (lcF (fun d e => (ofO (bindG g d e) e).bind fun e' _ => (evc ce c e').bind fun b e => if b = true then (ev ce t e).bind fun v e => (ofP (fz e v)).bind fun d e => .ok (some d) (wipeE own e) else .ok none (wipeE own e)) p.2 (wipeE own (lockE (vws p.1) e0))).calm.bind fun r e =>
        if r.length ≤ line then .ok (.fr (.ol r)) (unlockE e0 (vws p.1) (backE e0 own e)) else .no
  | .lcit t g i c own, e => match e[i]? with
    | some (.own bb false (.od l)) => match itemsD l with
      | some ds => ((lcF (fun d e => (ofO (bindG g d e) e).bind fun e' _ => (evc ce c e').bind fun b e => if b = true then (ev ce t e).bind fun v e => (ofP (fz e v)).bind fun d e => .ok (some d) (wipeE own e) else .ok none (wipeE own e)) ds (wipeE own (e.set i (.own bb true (.fd l))))).calm.bind fun r e' =>
          if r.length ≤ line then .ok (.fr (.ol r)) (backE (e.set i (.own bb true (.fd l))) own e') else .no).thaw i (.own bb false (.od l))
      | none => .no
    | _ => .no
  | .fld a n, e => (ev ce a e).bind fun x e => op1 (fldD ce n) x e
  | .isx a cs, e => (ev ce a e).bind fun x e => op1 (fun d => (isX ce cs d).map blV) x e
  | .frz a, e => (ev ce a e).bind fun v e => (ofP (fz e v)).bind fun d e => .ok (.p d) e
  | .told f t, e => toldR (ce.tl f) (ev ce t e)
def evT (ce : CE) : T → VE → R Bool
  | .and a b, e => (evT ce a e).bind fun t e => if t = true then evT ce b e else .ok false e
  | .or a b, e => (evT ce a e).bind fun t e => if t = true then .ok true e else evT ce b e
  | .not a, e => (evT ce a e).bind fun t e => .ok (!t) e
  | t, e => (ev ce t e).bind fun x e => op1 tru x e
def evs (ce : CE) : List T → VE → R (List Val)
  | [], e => .ok [] e
  | t :: l, e => (ev ce t e).bind fun v e => (evs ce l e).bind fun r e => .ok (v :: r) e
def evo (ce : CE) : Option T → VE → R (Option Int)
  | none, e => .ok none e
  | some t, e => (ev ce t e).bind fun v e => (op1 partOf v e).bind fun i e => .ok (some i) e
def evc (ce : CE) : Option T → VE → R Bool
  | none, e => .ok true e
  | some t, e => evT ce t e
end

inductive Out where
  | nx (e : VE)
  | rt (r : Ret) (e : VE)
  | bk (e : VE)
  | ct (e : VE)
  | rz (x : XD) (e : VE)
  | no
def R.out {α : Type} (r : R α) (f : α → VE → Out) : Out :=
  match r with
  | .ok a e => f a e
  | .rz x e => .rz x e
  | .no => .no
@[simp] theorem R.out_ok {α : Type} (a : α) (e : VE) (f : α → VE → Out) : (R.ok a e).out f = f a e := rfl
@[simp] theorem R.out_rz {α : Type} (x : XD) (e : VE) (f : α → VE → Out) : (R.rz x e : R α).out f = .rz x e := rfl
@[simp] theorem R.out_no {α : Type} (f : α → VE → Out) : (R.no : R α).out f = .no := rfl
def Out.then (o : Out) (f : VE → Out) : Out :=
  match o with
  | .nx e => f e
  | o => o
@[simp] theorem Out.then_nx (e : VE) (f : VE → Out) : (Out.nx e).then f = f e := rfl
@[simp] theorem Out.then_rt (r : Ret) (e : VE) (f : VE → Out) : (Out.rt r e).then f = .rt r e := rfl
@[simp] theorem Out.then_rz (r : XD) (e : VE) (f : VE → Out) : (Out.rz r e).then f = .rz r e := rfl
@[simp] theorem Out.then_bk (e : VE) (f : VE → Out) : (Out.bk e).then f = .bk e := rfl
@[simp] theorem Out.then_ct (e : VE) (f : VE → Out) : (Out.ct e).then f = .ct e := rfl
@[simp] theorem Out.then_no (f : VE → Out) : (Out.no).then f = .no := rfl
def ofX (o : Option VE) : Out := match o with | some e => .nx e | none => .no
@[simp] theorem ofX_some (e : VE) : ofX (some e) = .nx e := rfl
@[simp] theorem ofX_none : ofX none = .no := rfl
/-- a value stored at a name -/
def setV (i : Nat) (v : Val) (e : VE) : Option VE :=
  match v with
  | .p d => putS i (.dat d) e
  | .fr c => putS i (.own false false c) e
  | .vw j => (fz e (.vw j)).bind fun p => putS i (.dat p.1) p.2
/-- views told as data -/
def fzV (e : VE) : Val → Option (Val × VE)
  | .vw j => (fz e (.vw j)).map fun p => (.p p.1, p.2)
  | v => some (v, e)
def fzVs : List Val → VE → Option (List Val × VE)
  | [], e => some ([], e)
  | v :: l, e => (fzV e v).bind fun p => (fzVs l p.2).map fun q => (p.1 :: q.1, q.2)
def setVs : List Nat → List Val → VE → Option VE
  | [], [], e => some e
  | i :: is, v :: vs, e => (setV i v e).bind fun e => setVs is vs e
  | _, _, _ => none
def retV (v : Val) (e : VE) : Out :=
  match v with
  | .p d => .rt (.p d) e
  | .fr c => .rt (.fr c) e
  | .vw i => match e[i]? with
    | some (.dat d) => .rt (.p d) e
    | some (.own false false c) => .rt (.fr c) (e.set i .un)
    | _ => .no
/-- o[i] = v -/
def subV (x y v : Val) (e : VE) : Option VE :=
  match x with
  | .vw i => (fz e v).bind fun p => match p.2[i]?, rd p.2 y with
    | some (.own b false (.ol l)), some (.int k) => (ixn l.length k).map fun j => p.2.set i (.own b false (.ol (l.set j p.1)))
    | some (.own b false (.od l)), some k => (keyOf k).bind fun k => if l.length < line then some (p.2.set i (.own b false (.od (putD l k p.1)))) else none
    | _, _ => none
  | _ => none
def forF (g : TG) (b : VE → Out) : List D → VE → Out
  | [], e => .nx e
  | d :: l, e => match bindG g d e with
    | none => .no
    | some e => match b e with
      | .nx e => forF g b l e
      | .ct e => forF g b l e
      | .bk e => .nx e
      | o => o
def whF (c : VE → R Bool) (b : VE → Out) : Nat → VE → Out
  | 0, _ => .no
  | n + 1, e => (c e).out fun t e => if t = true then (match b e with
      | .nx e => whF c b n e
      | .ct e => whF c b n e
      | .bk e => .nx e
      | o => o) else .nx e
def Out.unlock (e0 : VE) (l : List Nat) : Out → Out
  | .nx e => .nx (unlockE e0 l e)
  | .rt r e => .rt r (unlockE e0 l e)
  | .bk e => .bk (unlockE e0 l e)
  | .ct e => .ct (unlockE e0 l e)
  | .rz x e => .rz x (unlockE e0 l e)
  | .no => .no
/-- nothing is raised -/
def Out.cold : Out → Out
  | .rz _ _ => .no
  | o => o
/-- the name of an except clause goes -/
def Out.gone (i : Nat) : Out → Out
  | .nx e => .nx (e.set i .un)
  | .bk e => .bk (e.set i .un)
  | .ct e => .ct (e.set i .un)
  | .rt r e => .rt r e
  | _ => .no
/-- an except suite -/
def hnd (i : Option Nat) (x : XD) (e : VE) (f : VE → Out) : Out :=
  match i with
  | none => (f e).cold
  | some i => match putS i (.dat (.exc x.c x.fs)) e with
    | none => .no
    | some e => (f e).gone i
/-- the dict at slot i is free again -/
def Out.thaw (i : Nat) (s : SS) : Out → Out
  | .nx e => .nx (e.set i s)
  | .rt r e => .rt r (e.set i s)
  | _ => .no
def rseF (ce : CE) (c : Nat) (ds : List D) (e : VE) : Out := if ds.length = (ce.flds c).length ∧ ds ≠ [] ∧ ds.length ≤ 100 then .rz ⟨c, ((ce.flds c).zip ds).reverse⟩ e else .no
mutual
def ex (ce : CE) : S → VE → Out
  | .set i t, e => (ev ce t e).out fun v e => ofX (setV i v e)
  | .par is ts, e => (evs ce ts e).out fun vs e => (ofP (fzVs vs e)).out fun vs e => ofX (setVs is vs e)
  | .unp g t, e => (ev ce t e).out fun v e => (ofP (fz e v)).out fun d e => ofX (bindG g d e)
  | .sub a i t, e => (ev ce t e).out fun v e => (ev ce a e).out fun x e => (ev ce i e).out fun y e => ofX (subV x y v e)
  | .exp t, e => (ev ce t e).out fun _ e => .nx e
  | .ret t, e => (ev ce t e).out fun v e => retV v e
  | .retn, e => .rt (.p .non) e
  | .ifs c a b, e => (evT ce c e).out fun t e => if t = true then exs ce a e else exs ce b e
  | .fors g k l b, e => ((evs ce l e).bind (itsOf k)).out fun p e0 => (forF g (exs ce b) p.2 (lockE (vws p.1) e0)).unlock e0 (vws p.1)
  | .whl n c b, e => whF (evT ce c) (exs ce b) n e
  | .brk, e => .bk e
  | .cnt, e => .ct e
  | .pas, e => .nx e
  | .bad, _ => .no
  | .rse c l, e => (evs ce l e).out fun vs e => (ofP (fzs vs e)).out fun ds e => rseF ce c ds e
  | .forit g i b, e => match e[i]? with
    | some (.own bb false (.od l)) => match itemsD l with
      | some ds => (forF g (exs ce b) ds (e.set i (.own bb true (.fd l)))).thaw i (.own bb false (.od l))
      | none => .no
    | _ => .no
  | .tryc b cs i s cs2 i2 s2, e => match exs ce b e with
    | .rz x e => match subAny ce.sub x.c cs with
      | some true => hnd i x e (exs ce s)
      | some false => match subAny ce.sub x.c cs2 with
        | some true => hnd i2 x e (exs ce s2)
        | some false => .rz x e
        | none => .no
      | none => .no
    | o => o
def exs (ce : CE) : List S → VE → Out
  | [], e => .nx e
  | s :: l, e => (ex ce s e).then (exs ce l)
end
/-- the arguments as they stand behind a call -/
def backA : List Arg → VE → Option (List Arg)
  | [], _ => some []
  | a :: l, e => match e with
    | [] => none
    | s :: e => match a with
      | .p d => (backA l e).map (.p d :: ·)
      | .o k _ => match s with
        | .own true _ c => (backA l e).map (.o k c :: ·)
        | _ => none
def runO (as : List Arg) : Out → RF
  | .nx e => match backA as e with | some l => .ok (.p .non) l | none => .no
  | .rt r e => match backA as e with | some l => .ok r l | none => .no
  | .rz x e => match backA as e with | some l => .rz x l | none => .no
  | _ => .no
/-- a def of n slots -/
def runF (ce : CE) (n : Nat) (b : List S) (as : List Arg) : RF := runO as (exs ce b (as.map Arg.ss ++ List.replicate (n - as.length) .un))
end Vd
/-! Vd3: what a value stands for; steps of expressions. -/
namespace Vd
open PySem PySem.Spec PyProof.Rows L2

/-- what an expression may turn of a slot -/
inductive SR : SS → SS → Prop where
  | same (s : SS) : SR s s
  | turn (b : Bool) (c c' : OC) : SR (.own b false c) (.own b false c')
  | frz (c : OC) (d : D) : SR (.own false false c) (.dat d)
theorem SR.trans {s t u : SS} (p : SR s t) (q : SR t u) : SR s u := by
  cases p with
  | same => exact q
  | turn b c c' =>
    cases q with
    | same => exact .turn b c c'
    | turn _ _ c2 => exact .turn b c c2
    | frz _ d => exact .frz c d
  | frz c d =>
    cases q with
    | same => exact .frz c d
theorem SR.own {s : SS} {b k : Bool} {c : OC} (p : SR s (.own b k c)) : ∃ c0, s = .own b k c0 := by
  cases p with
  | same => exact ⟨c, rfl⟩
  | turn _ c0 _ => exact ⟨c0, rfl⟩
structure EK (e e' : VE) : Prop where
  len : e'.length = e.length
  at' : ∀ (i : Nat) (s : SS), e[i]? = some s → ∃ s', e'[i]? = some s' ∧ SR s s'
theorem EK.refl (e : VE) : EK e e := ⟨rfl, fun _ s h => ⟨s, h, .same s⟩⟩
theorem EK.trans {e e1 e2 : VE} (p : EK e e1) (q : EK e1 e2) : EK e e2 where
  len := q.len.trans p.len
  at' := fun i s h => by
    obtain ⟨s1, h1, r1⟩ := p.at' i s h
    obtain ⟨s2, h2, r2⟩ := q.at' i s1 h1
    exact ⟨s2, h2, r1.trans r2⟩
theorem EK.from {e e' : VE} (p : EK e e') {i : Nat} {s' : SS} (h : e'[i]? = some s') : ∃ s, e[i]? = some s ∧ SR s s' := by
  have hl : i < e.length := by
    rw [← p.len]
    exact (List.getElem?_eq_some_iff.mp h).1
  obtain ⟨s1, h1, r1⟩ := p.at' i e[i] (List.getElem?_eq_getElem hl)
  rw [h] at h1; cases h1
  exact ⟨_, List.getElem?_eq_getElem hl, r1⟩
theorem EK.own {e e' : VE} (p : EK e e') {i : Nat} {b k : Bool} {c : OC} (h : e'[i]? = some (SS.own b k c)) : ∃ c0, e[i]? = some (SS.own b k c0) := by
  obtain ⟨s, h1, r⟩ := p.from h
  obtain ⟨c0, rfl⟩ := r.own
  exact ⟨c0, h1⟩
theorem EK.ow {g : Gx} {e e' : VE} {σ : L2.St} (p : EK e e') {a : Addr} (h : Ow g e' σ a) : Ow g e σ a := by
  rcases h with h | ⟨i, b, k, c, h1, h2⟩
  · exact .inl h
  · obtain ⟨c0, h0⟩ := p.own h1
    exact .inr ⟨i, b, k, c0, h0, h2⟩
/-- one slot turned -/
theorem EK.set {e : VE} {i : Nat} {s s' : SS} (h : e[i]? = some s) (r : SR s s') : EK e (e.set i s') where
  len := List.length_set
  at' := fun j u hj => by
    by_cases q : i = j
    · subst q
      rw [h] at hj; cases hj
      exact ⟨s', by rw [List.getElem?_set_self (List.getElem?_eq_some_iff.mp h).1], r⟩
    · exact ⟨u, by rw [List.getElem?_set_ne q]; exact hj, .same u⟩
structure PK (g : Gx) (σ : L2.St) (Hb H : Hp) (e : VE) (Hb' H' : Hp) (e' : VE) : Prop where
  vp : VP (Ow g e σ) Hb H (Ow g e' σ) Hb' H'
  st : VS g Hb' e' σ H'
  ek : EK e e'
theorem PK.refl {g : Gx} {σ : L2.St} {Hb H : Hp} {e : VE} (I : VS g Hb e σ H) : PK g σ Hb H e Hb H e := ⟨.refl, I, .refl e⟩
theorem PK.trans {g : Gx} {σ : L2.St} {Hb H Hb1 H1 Hb2 H2 : Hp} {e e1 e2 : VE} (p : PK g σ Hb H e Hb1 H1 e1) (q : PK g σ Hb1 H1 e1 Hb2 H2 e2) : PK g σ Hb H e Hb2 H2 e2 := ⟨p.vp.trans q.vp, q.st, p.ek.trans q.ek⟩

/-! ### what a value stands for -/
def RV (g : Gx) (H0 Hb H : Hp) (e : VE) (σ : L2.St) : Val → V → Prop
  | .p d, x => Rp g Hb d x
  | .vw i, x => σ[i]? = some (some x) ∧ ∃ s, e[i]? = some s ∧ s ≠ .un
  | .fr c, x => ∃ a, x = .ref a ∧ H0 a = none ∧ Hb a = none ∧ RO g Hb H c a ∧ ¬ Ow g e σ a
theorem RV.step {g : Gx} {σ : L2.St} {H0 Hb H Hb1 H1 : Hp} {e e1 : VE} {v : Val} {x : V} (r : RV g H0 Hb H e σ v x) (p : PK g σ Hb H e Hb1 H1 e1) : RV g H0 Hb1 H1 e1 σ v x := by
  cases v with
  | p d => exact Rp.mono p.vp.b d x r
  | vw i =>
    obtain ⟨h1, s, h2, n⟩ := r
    obtain ⟨s', h3, q⟩ := p.ek.at' i s h2
    refine ⟨h1, s', h3, ?_⟩
    rintro rfl
    cases q
    exact n rfl
  | fr c =>
    obtain ⟨a, rfl, h0, hb, ro, no⟩ := r
    obtain ⟨o, ho, _⟩ := ro.there
    refine ⟨a, rfl, h0, ?_, ro.mono p.vp.b fun o h => p.vp.k a o h no, fun z => no (p.ek.ow z)⟩
    cases q : Hb1 a with
    | none => rfl
    | some u =>
      rcases p.vp.n a u q with z | z | z
      · rw [hb] at z; cases z
      · rw [ho] at z; cases z
      · exact absurd z no
/-- the start may be earlier -/
theorem RV.early {g : Gx} {σ : L2.St} {H0 H0' Hb H : Hp} {e : VE} {v : Val} {x : V} (r : RV g H0 Hb H e σ v x) (h : ∀ a, H0 a = none → H0' a = none) : RV g H0' Hb H e σ v x := by
  cases v with
  | fr c =>
    obtain ⟨a, rfl, h0, q⟩ := r
    exact ⟨a, rfl, h a h0, q⟩
  | p d => exact r
  | vw i => exact r
/-- read now: parts by what is kept, itself by the heap -/
def RR (g : Gx) (Hb H : Hp) : D → V → Prop
  | .lst l, x => ∃ a vs, x = .ref a ∧ SqL g.K H a vs ∧ Rps g Hb l vs
  | .dct l, x => ∃ a vs, x = .ref a ∧ Rd H a (.dK vs) ∧ Rpk g Hb l vs
  | .ins c fs, x => ∃ a dx vs, x = .ref a ∧ H a = some (.ins (g.ca c) dx vs) ∧ Rpf g Hb fs vs
  | d, x => Rp g Hb d x
theorem RR.of {g : Gx} {Hb H : Hp} (e : Ex Hb H) {d : D} {x : V} (h : Rp g Hb d x) : RR g Hb H d x := by
  cases d with
  | lst l => obtain ⟨a, vs, rfl, h1, h2⟩ := h; exact ⟨a, vs, rfl, e.sql h1, h2⟩
  | dct l => obtain ⟨a, vs, rfl, h1, h2⟩ := h; exact ⟨a, vs, rfl, e.rd h1, h2⟩
  | ins c l => obtain ⟨a, dx, vs, rfl, h1, h2⟩ := h; exact ⟨a, dx, vs, rfl, e _ _ h1, h2⟩
  | _ => exact h
theorem RR.ofO {g : Gx} {Hb H : Hp} {c : OC} {a : Addr} (h : RO g Hb H c a) : RR g Hb H c.toD (.ref a) := by
  cases c with
  | ol l => obtain ⟨vs, h1, h2⟩ := h; exact ⟨a, vs, rfl, .of h1, h2⟩
  | od l => obtain ⟨vs, h1, h2⟩ := h; exact ⟨a, vs, rfl, .inl h1, h2⟩
  | fd l => obtain ⟨o, vs, h1, h2⟩ := h; exact ⟨a, vs, rfl, .inr ⟨o, h1⟩, h2⟩
  | oi c l => obtain ⟨dx, vs, h1, h2⟩ := h; exact ⟨a, dx, vs, rfl, h1, h2⟩
theorem RR.rp {g : Gx} {Hb H : Hp} (e : Ex Hb H) {d : D} {x : V} (h : RR g Hb H d x) : Rp g H d x := by
  cases d with
  | lst l => obtain ⟨a, vs, rfl, h1, h2⟩ := h; exact ⟨a, vs, rfl, h1, Rps.mono e l vs h2⟩
  | dct l => obtain ⟨a, vs, rfl, h1, h2⟩ := h; exact ⟨a, vs, rfl, h1, Rpk.mono e l vs h2⟩
  | ins c l => obtain ⟨a, dx, vs, rfl, h1, h2⟩ := h; exact ⟨a, dx, vs, rfl, h1, Rpf.mono e l vs h2⟩
  | _ => exact Rp.mono e _ x h
theorem RV.read {g : Gx} {σ : L2.St} {H0 Hb H : Hp} {e : VE} {v : Val} {x : V} {d : D} (I : VS g Hb e σ H) (r : RV g H0 Hb H e σ v x) (h : rd e v = some d) : RR g Hb H d x := by
  cases v with
  | p d' =>
    cases h
    exact .of I.ex r
  | vw i =>
    obtain ⟨h1, s, h2, n⟩ := r
    have h' : (e[i]?).bind SS.rd = some d := h
    rw [h2] at h'
    cases s with
    | un => exact absurd rfl n
    | dat d' =>
      cases h'
      obtain ⟨v, e1, r1⟩ := I.dat i _ h2
      rw [h1] at e1; cases e1
      exact .of I.ex r1
    | own b k c =>
      cases h'
      obtain ⟨a, e1, _, r1⟩ := I.own i b k c h2
      rw [h1] at e1; cases e1
      exact .ofO r1
  | fr c =>
    cases h
    obtain ⟨a, rfl, _, _, ro, _⟩ := r
    exact .ofO ro

/-! ### results -/
abbrev WD := Value → Option Addr → Hp → Prop
/-- the data of an exception -/
def RX (g : Gx) (Hb H : Hp) (x : XD) (cls : Value) (d : Option Addr) : Prop := cls = g.cv x.c ∧ ∃ kfs, XDict Hb d kfs ∧ Rpf g Hb x.fs kfs
/-- a result of any kind α, told by P -/
def CA {α β : Type} (P : Hp → Hp → Hp → VE → α → β → Prop) (g : Gx) (W : WX) (σ : L2.St) (Hb H : Hp) (e : VE) (r : R α) (Q : β → Hp → Prop) : Prop :=
  match r with
  | .ok v e' => ∀ x Hb' H', PK g σ Hb H e Hb' H' e' → P H Hb' H' e' v x → Q x H'
  | .rz xd e' => ∀ cls d Hb' H', PK g σ Hb H e Hb' H' e' → RX g Hb' H' xd cls d → W cls d σ H'
  | .no => False
def Early {α β : Type} (P : Hp → Hp → Hp → VE → α → β → Prop) : Prop := ∀ H0 H0' Hb H e v x, (∀ a, H0 a = none → H0' a = none) → P H0 Hb H e v x → P H0' Hb H e v x
abbrev PV (g : Gx) (σ : L2.St) : Hp → Hp → Hp → VE → Val → V → Prop := fun H0 Hb H e => RV g H0 Hb H e σ
abbrev PQ {α : Type} : Hp → Hp → Hp → VE → α → α → Prop := fun _ _ _ _ a b => b = a
/-- lists of values: the new objects among them are unlike -/
def RVs (g : Gx) (H0 Hb H : Hp) (e : VE) (σ : L2.St) : List Val → List V → Prop
  | [], xs => xs = []
  | v :: l, xs => ∃ x r, xs = x :: r ∧ RV g H0 Hb H e σ v x ∧ RVs g H0 Hb H e σ l r ∧ ∀ c, v = Val.fr c → ∀ (j : Nat) c', l[j]? = some (Val.fr c') → r[j]? ≠ some x
abbrev PL (g : Gx) (σ : L2.St) : Hp → Hp → Hp → VE → List Val → List V → Prop := fun H0 Hb H e => RVs g H0 Hb H e σ
theorem RVs.early {g : Gx} {σ : L2.St} {H0 H0' Hb H : Hp} {e : VE} (k : ∀ a, H0 a = none → H0' a = none) : ∀ {vs : List Val} {xs : List V}, RVs g H0 Hb H e σ vs xs → RVs g H0' Hb H e σ vs xs
  | [], _, h => h
  | v :: l, _, h => by
    obtain ⟨x, r, rfl, h1, h2, h3⟩ := h
    exact ⟨x, r, rfl, h1.early k, RVs.early k h2, h3⟩
theorem RVs.step {g : Gx} {σ : L2.St} {H0 Hb H Hb1 H1 : Hp} {e e1 : VE} (p : PK g σ Hb H e Hb1 H1 e1) : ∀ {vs : List Val} {xs : List V}, RVs g H0 Hb H e σ vs xs → RVs g H0 Hb1 H1 e1 σ vs xs
  | [], _, h => h
  | v :: l, _, h => by
    obtain ⟨x, r, rfl, h1, h2, h3⟩ := h
    exact ⟨x, r, rfl, h1.step p, RVs.step p h2, h3⟩
theorem early_V {g : Gx} {σ : L2.St} : Early (PV g σ) := fun _ _ _ _ _ _ _ k r => RV.early r k
theorem early_L {g : Gx} {σ : L2.St} : Early (PL g σ) := fun _ _ _ _ _ _ _ k r => RVs.early k r
theorem early_Q {α : Type} : Early (@PQ α) := fun _ _ _ _ _ _ _ _ r => r
section
variable {α β γ δ : Type} {Pa : Hp → Hp → Hp → VE → α → β → Prop} {Pb : Hp → Hp → Hp → VE → γ → δ → Prop} {g : Gx} {W : WX} {σ : L2.St} {Hb H Hb1 H1 : Hp} {e e1 : VE}
/-- a step ahead -/
theorem CA.shift {r : R α} {Q : β → Hp → Prop} (hP : Early Pa) (p : PK g σ Hb H e Hb1 H1 e1) (h : CA Pa g W σ Hb H e r Q) : CA Pa g W σ Hb1 H1 e1 r Q := by
  cases r with
  | ok v e' => exact fun x Hb' H' pk rv => h x Hb' H' (p.trans pk) (hP _ _ _ _ _ _ _ p.vp.t rv)
  | rz xd e' => exact fun cls d Hb' H' pk rx => h cls d Hb' H' (p.trans pk) rx
  | no => exact h
theorem CA.bind {r : R α} {f : α → VE → R γ} {Q : δ → Hp → Prop} {Q' : β → Hp → Prop} (hP : Early Pb) (h : CA Pb g W σ Hb H e (r.bind f) Q)
    (k : ∀ v e1 x Hb1 H1, PK g σ Hb H e Hb1 H1 e1 → Pa H Hb1 H1 e1 v x → CA Pb g W σ Hb1 H1 e1 (f v e1) Q → Q' x H1) : CA Pa g W σ Hb H e r Q' := by
  cases r with
  | ok v e1 => exact fun x Hb1 H1 pk rv => k v e1 x Hb1 H1 pk rv (CA.shift hP pk h)
  | rz xd e' => exact h
  | no => exact h
/-- an option that is there -/
theorem CA.ofO {o : Option α} {f : α → VE → R γ} {Q : δ → Hp → Prop} (h : CA Pb g W σ Hb H e ((Vd.ofO o e).bind f) Q) : ∃ a, o = some a ∧ CA Pb g W σ Hb H e (f a e) Q := by
  cases o with
  | none => exact h.elim
  | some a => exact ⟨a, rfl, h⟩
theorem CA.ofO' {o : Option α} {Q : β → Hp → Prop} (h : CA Pa g W σ Hb H e (Vd.ofO o e) Q) : ∃ a, o = some a ∧ ∀ x Hb' H', PK g σ Hb H e Hb' H' e → Pa H Hb' H' e a x → Q x H' := by
  cases o with
  | none => exact h.elim
  | some a => exact ⟨a, rfl, h⟩
theorem CA.op1 {f' : D → Option α} {v : Val} {f : α → VE → R γ} {Q : δ → Hp → Prop} (h : CA Pb g W σ Hb H e ((Vd.op1 f' v e).bind f) Q) : ∃ d a, rd e v = some d ∧ f' d = some a ∧ CA Pb g W σ Hb H e (f a e) Q := by
  obtain ⟨a, h1, h2⟩ := CA.ofO h
  cases q : rd e v with
  | none => rw [q] at h1; cases h1
  | some d => rw [q] at h1; exact ⟨d, a, rfl, h1, h2⟩
theorem CA.op1' {f' : D → Option α} {v : Val} {Q : β → Hp → Prop} (h : CA Pa g W σ Hb H e (Vd.op1 f' v e) Q) : ∃ d a, rd e v = some d ∧ f' d = some a ∧ ∀ x Hb' H', PK g σ Hb H e Hb' H' e → Pa H Hb' H' e a x → Q x H' := by
  obtain ⟨a, h1, h2⟩ := CA.ofO' h
  cases q : rd e v with
  | none => rw [q] at h1; cases h1
  | some d => rw [q] at h1; exact ⟨d, a, rfl, h1, h2⟩
theorem CA.op2 {f' : D → D → Option α} {v w : Val} {f : α → VE → R γ} {Q : δ → Hp → Prop} (h : CA Pb g W σ Hb H e ((Vd.op2 f' v w e).bind f) Q) : ∃ d d' a, rd e v = some d ∧ rd e w = some d' ∧ f' d d' = some a ∧ CA Pb g W σ Hb H e (f a e) Q := by
  obtain ⟨a, h1, h2⟩ := CA.ofO h
  cases q : rd e v with
  | none => rw [q] at h1; cases h1
  | some d =>
    cases q' : rd e w with
    | none => rw [q, q'] at h1; cases h1
    | some d' => rw [q, q'] at h1; exact ⟨d, d', a, rfl, rfl, h1, h2⟩
theorem CA.op2' {f' : D → D → Option α} {v w : Val} {Q : β → Hp → Prop} (h : CA Pa g W σ Hb H e (Vd.op2 f' v w e) Q) : ∃ d d' a, rd e v = some d ∧ rd e w = some d' ∧ f' d d' = some a ∧ ∀ x Hb' H', PK g σ Hb H e Hb' H' e → Pa H Hb' H' e a x → Q x H' := by
  obtain ⟨a, h1, h2⟩ := CA.ofO' h
  cases q : rd e v with
  | none => rw [q] at h1; cases h1
  | some d =>
    cases q' : rd e w with
    | none => rw [q, q'] at h1; cases h1
    | some d' => rw [q, q'] at h1; exact ⟨d, d', a, rfl, rfl, h1, h2⟩
end

/-! ### an expression, a test, arguments: sound against what they compute -/
def tW (X : Cx) (e : Expr) : TE := fun σ H Q => ∀ pins s, Inv X pins σ H s → wpAny (model X.prog X.w) X.A (eval e X.env) (EP X pins σ Q) X.xe s
theorem pe_W (X : Cx) (e : Expr) : PE X e (tW X e) := ⟨fun pins s _ _ _ I h => h pins s I⟩
theorem tW_of {X : Cx} {e : Expr} {t : TE} (h : PE X e t) {σ : L2.St} {H : Hp} {Q : VK} (q : t σ H Q) : tW X e σ H Q := fun pins s I => h.run pins s σ H Q I q
def tWT (X : Cx) (e : Expr) : TT := fun σ H Q => ∀ pins s, Inv X pins σ H s → wpAny (model X.prog X.w) X.A (isTrue e X.env (eval e X.env)) (TP X pins σ Q) X.xe s
theorem pt_W (X : Cx) (e : Expr) : PT X e (tWT X e) := ⟨fun pins s _ _ _ I h => h pins s I⟩
theorem tWT_of {X : Cx} {e : Expr} {t : TT} (h : PT X e t) {σ : L2.St} {H : Hp} {Q : Bool → Hp → Prop} (q : t σ H Q) : tWT X e σ H Q := fun pins s I => h.run pins s σ H Q I q
def tWA (X : Cx) (es : List Expr) : TA := fun σ H Q => ∀ (pos : Pos) pins s, Inv X pins σ H s → wpAny (model X.prog X.w) X.A (spliced (backTo pos (starEach es X.env))) (AP X pins σ Q) X.xe s
theorem pa_W (X : Cx) (es : List Expr) : PA X es (tWA X es) := ⟨fun pos pins s _ _ _ I h => h pos pins s I⟩
theorem tWA_of {X : Cx} {es : List Expr} {t : TA} (h : PA X es t) {σ : L2.St} {H : Hp} {Q : List V → Hp → Prop} (q : t σ H Q) : tWA X es σ H Q := fun pos pins s I => h.run pos pins s σ H Q I q
def SE (g : Gx) (X : Cx) (W : WX) (x : Expr) (m : VE → R Val) : Prop := ∀ e σ Hb H (Q : VK), VS g Hb e σ H → CA (PV g σ) g W σ Hb H e (m e) Q → tW X x σ H Q
def ST (g : Gx) (X : Cx) (W : WX) (x : Expr) (m : VE → R Bool) : Prop := ∀ e σ Hb H (Q : Bool → Hp → Prop), VS g Hb e σ H → CA PQ g W σ Hb H e (m e) Q → tWT X x σ H Q
def SA (g : Gx) (X : Cx) (W : WX) (xs : List Expr) (m : VE → R (List Val)) : Prop := ∀ e σ Hb H (Q : List V → Hp → Prop), VS g Hb e σ H → CA (PL g σ) g W σ Hb H e (m e) Q → tWA X xs σ H Q
/-- a two-place operation as it is -/
def rW (X : Cx) (f : Value → Value → Sem Value) : R2 := fun x y H Q => ∀ pins s σ v u, Inv X pins σ H s → RelV x v → RelV y u → wpAny (model X.prog X.w) X.A (f v u) (EP X pins σ Q) X.xe s
theorem op_W (X : Cx) (f : Value → Value → Sem Value) : OpR X f (rW X f) := fun pins s σ H x y v u Q I rx ry h => h pins s σ v u I rx ry
theorem rW_of {X : Cx} {f : Value → Value → Sem Value} {r : R2} (h : OpR X f r) {x y : V} {H : Hp} {Q : VK} (q : r x y H Q) : rW X f x y H Q := fun pins s σ v u I rx ry => h pins s σ H x y v u Q I rx ry q
/-- what the context must have -/
structure Good (g : Gx) (kk : Nat) (X : Cx) (W : WX) : Prop where
  hK : X.K = g.K
  nd : X.N.Nodup
  calm : 0 < kk → X.calm = true
  tk : Takes X W
  rm : 0 < kk → Room (kk - 1) X.A
  hu' : X.A.units + 64 < cLine
  gd : g.rp = true → X.A.guards = some []
/-- a def's promise; where rp, only with nothing under way that guards against itself -/
structure FnR (rp : Bool) (P : Program) (w : World) (K : PySem.W.Frag) (mg : Str → Option Value) (base : Heap) (CX : CXT) (k : Nat) (f : Addr) (fd : FuncData) (ps : List Str) (sp : Sp) : Prop where
  len : ∀ vs H Q E, sp vs H Q E → vs.length = ps.length
  run : ∀ (A : Around) (outer : List Env) (s : Shared) (H : Hp) (args : Args) (us : List Value) (vs : List V) (Q : VK) (E : XK), (rp = true → A.guards = some []) → Room k A → Env0 P w K mg base A outer s H → BindsTo s fd args (ps.zip us) → Vals vs us → sp vs H Q E →
    codeAny (model P w) A (.call (.ref f) args) (CR CX outer P w H s Q E) s
theorem FnR.of {rp : Bool} {P : Program} {w : World} {K : PySem.W.Frag} {mg : Str → Option Value} {base : Heap} {CX : CXT} {k : Nat} {f : Addr} {fd : FuncData} {ps : List Str} {sp : Sp} (F : FnOk P w K mg base CX k f fd ps sp) : FnR rp P w K mg base CX k f fd ps sp :=
  ⟨F.len, fun A o s H a us vs Q E _ => F.run A o s H a us vs Q E⟩
theorem FnR.ok {P : Program} {w : World} {K : PySem.W.Frag} {mg : Str → Option Value} {base : Heap} {CX : CXT} {k : Nat} {f : Addr} {fd : FuncData} {ps : List Str} {sp : Sp} (F : FnR false P w K mg base CX k f fd ps sp) : FnOk P w K mg base CX k f fd ps sp :=
  ⟨F.len, fun A o s H a us vs Q E => F.run A o s H a us vs Q E (fun z => by cases z)⟩
theorem FnR.imp {rp : Bool} {P : Program} {w : World} {K : PySem.W.Frag} {mg : Str → Option Value} {base : Heap} {CX : CXT} {k : Nat} {f : Addr} {fd : FuncData} {ps : List Str} {sp sp' : Sp} (F : FnR rp P w K mg base CX k f fd ps sp) (h : ∀ vs H Q E, sp' vs H Q E → sp vs H Q E) : FnR rp P w K mg base CX k f fd ps sp' :=
  ⟨fun vs H Q E q => F.len vs H Q E (h _ _ _ _ q), fun A o s H a us vs Q E g hr he hb hv hs => F.run A o s H a us vs Q E g hr he hb hv (h _ _ _ _ hs)⟩
end Vd
/-! Vd3b: +, * and extend with lists that are read only. -/
namespace Vd
open PySem PySem.Spec PyProof.Rows L2
theorem ext_any (l b : Addr) (xs ys : Array Value) (n m : Nat) (dd : Option Addr) (sl : Array (Option Value)) (h0 : ¬(!xs.isEmpty && Builtin.List.listTooLong (xs.size + ys.size)) = true) (h1 : xs.size ≤ sizeLine) (h2 : xs.size + ys.size ≤ sizeLine + 1) :
    Meets (Builtin.«list.extend» ⟨[.ref l, .ref b], []⟩) (fun _ R s => s.heap.get? l = some { cls := .type "list", dict := none, data := .seq xs n, slots := #[] } ∧ s.heap.get? b = some { cls := .type "list", dict := dd, data := .seq ys m, slots := sl } ∧ R (.ok (.ret Value.none)) { s with heap := s.heap.update l (Obj.mapSeq fun x => x ++ ys), toks := s.toks }) :=
  .of_wp fun prog w A R s h => by
    obtain ⟨hp, g, d, tk, os⟩ := s
    obtain ⟨hl, hb, h⟩ := h
    have f1 := AutoSeq1.idx_int
    have f2 := AutoSeq1.sub_tuple_tuple
    have f3 := AutoSeq1.sub_list_list
    have f4 := AutoSeq1.sub_tuple_list
    have f5 := AutoSeq1.sub_list_tuple
    have hz' : (xs ++ ys).size ≤ sizeLine + 1 := by rw [Array.size_append]; exact h2
    wp_walk using (wpAny_updateSeq hl rfl (hz := h1) (_hz' := hz')), wpAny_loadPart' hl, wpAny_loadPart' hb
    exact ⟨_, rfl, h⟩
theorem ext_anyT (l b : Addr) (xs ys : Array Value) (n m : Nat) (dd : Option Addr) (sl : Array (Option Value)) (h0 : ¬(!xs.isEmpty && Builtin.List.listTooLong (xs.size + ys.size)) = true) (h1 : xs.size ≤ sizeLine) (h2 : xs.size + ys.size ≤ sizeLine + 1) :
    Meets (Builtin.«list.extend» ⟨[.ref l, .ref b], []⟩) (fun _ R s => s.heap.get? l = some { cls := .type "list", dict := none, data := .seq xs n, slots := #[] } ∧ s.heap.get? b = some { cls := .type "tuple", dict := dd, data := .seq ys m, slots := sl } ∧ R (.ok (.ret Value.none)) { s with heap := s.heap.update l (Obj.mapSeq fun x => x ++ ys), toks := s.toks }) :=
  .of_wp fun prog w A R s h => by
    obtain ⟨hp, g, d, tk, os⟩ := s
    obtain ⟨hl, hb, h⟩ := h
    have f1 := AutoSeq1.idx_int
    have f2 := AutoSeq1.sub_tuple_tuple
    have f3 := AutoSeq1.sub_list_list
    have f4 := AutoSeq1.sub_tuple_list
    have f5 := AutoSeq1.sub_list_tuple
    have hz' : (xs ++ ys).size ≤ sizeLine + 1 := by rw [Array.size_append]; exact h2
    wp_walk using (wpAny_updateSeq hl rfl (hz := h1) (_hz' := hz')), wpAny_loadPart' hl, wpAny_loadPart' hb
    exact ⟨_, rfl, h⟩
theorem rmul_any (a : Int) (t : Tok) (l : Addr) (xs : Array Value) (n : Nat) (dd : Option Addr) (sl : Array (Option Value)) :
    Meets (Builtin.«int.__rmul__» ⟨[.int a t, .ref l], []⟩) (fun _ R s => s.heap.get? l = some { cls := .type "list", dict := dd, data := .seq xs n, slots := sl } ∧ R (.ok (.ret Value.notImplemented)) s) :=
  .of_wp fun prog w A R s h => by obtain ⟨hp, g, d, tk, os⟩ := s; obtain ⟨hl, h⟩ := h; wp_walk; exact ⟨_, rfl, h⟩
theorem mul_any (l : Addr) (xs : Array Value) (n : Nat) (dd : Option Addr) (sl : Array (Option Value)) (x : Int) (u : Tok) (h0 : ¬(!Builtin.List.listFitsIndex x) = true) (h1 : ¬xs.size * x.toNat > (2 ^ 63 - 1) / 8) (h2 : ¬Builtin.List.listTooLong (xs.size * x.toNat) = true) :
    Meets (Builtin.«list.__mul__» ⟨[.ref l, .int x u], []⟩) (fun _ R s => s.heap.get? l = some { cls := .type "list", dict := dd, data := .seq xs n, slots := sl } ∧ R (.ok (.ret (Value.ref s.heap.objs.size))) { s with heap := s.heap.push { cls := Value.type "list", data := Data.seq (List.foldl (fun x1 x2 => x1 ++ x2) #[] (List.replicate (if xs.isEmpty = true then 0 else x.toNat) xs)) }, toks := s.toks }) :=
  .of_wp fun prog w A R s h => by
    obtain ⟨hp, g, d, tk, os⟩ := s
    obtain ⟨hl, h⟩ := h
    have hsz := AutoListH.joined_fits h2
    wp_walk
    refine wpAny_ite_false (decide_eq_false (Nat.not_lt.mpr hsz)) ?_
    wp_walk
    exact ⟨_, rfl, h⟩
section
variable {X : Cx}
theorem op_catL : OpR X (binaryOp .Add) (fun x y H Q => ∃ l b xs zs, x = .ref l ∧ y = .ref b ∧ SqL X.K H l xs ∧ SqL X.K H b zs ∧ xs.length + zs.length ≤ sizeLine ∧ ∀ p, H p = none → Q (.ref p) (upd H p (.lst (xs ++ zs)))) := by
  intro pins s σ H x y v u Q I rx ry h
  obtain ⟨l, b, xs, zs, rfl, rfl, hH, hB, hz, q⟩ := h
  cases rx
  cases ry
  obtain ⟨its, r, ⟨⟨c1, d1, a1, s1⟩, n1, e1, k1, k2, k3⟩, z1⟩ := I.list hH
  obtain ⟨its2, r2, ⟨⟨c2, d2, a2, s2⟩, n2, e2, k4, k5, k6⟩, z2⟩ := I.list hB
  simp only at k1 k2 k3 k4 k5 k6
  subst k1 k2 k3 k4 k5 k6
  have hl := r.length
  have hl2 := r2.length
  have ea : its.toArray ++ its2.toArray = (its ++ its2).toArray := by simp
  have t1 : s.TypeIs (.ref l) "list" := ⟨_, e1, rfl⟩
  have t2 : s.TypeIs (.ref b) "list" := ⟨_, e2, rfl⟩
  refine concat_meets t1 t2 noFill_list_add seq_list_add F.slot_list_add F.entry_list_add (F.args_list_add_2 _ _)
    (list_addW l b its.toArray its2.toArray n1 n2 none none s1 s2 (by rw [List.size_toArray, List.size_toArray]; omega)) ⟨e1, e2, ?_⟩
  rw [ea]
  exact ⟨.ref _, _, I.lnew (t' := s.toks) (r.append r2) (by rw [List.length_append]; omega), rfl, q _ I.fresh⟩
theorem op_repL : OpR X (binaryOp .Mult) (fun x y H Q => ∃ l k xs, x = .ref l ∧ y = .int k ∧ SqL X.K H l xs ∧ -(2 ^ 63) ≤ k ∧ k < 2 ^ 63 ∧ xs.length * k.toNat ≤ sizeLine ∧ ∀ p, H p = none → Q (.ref p) (upd H p (.lst (List.replicate k.toNat xs).flatten))) := by
  intro pins s σ H x y v u Q I rx ry h
  obtain ⟨l, k, xs, rfl, rfl, hH, h1, h2, hz, q⟩ := h
  cases rx
  obtain ⟨t, rfl⟩ := ry
  obtain ⟨its, r, ⟨⟨c1, d1, a1, s1⟩, n1, e, k1, k2, k3⟩, z1⟩ := I.list hH
  simp only at k1 k2 k3
  subst k1 k2 k3
  have hl := r.length
  have hlen : its.toArray.size * k.toNat ≤ sizeLine := by rw [List.size_toArray, ← hl]; exact hz
  have hcap : ¬ its.toArray.size * k.toNat > (2 ^ 63 - 1) / 8 := by
    have : (sizeLine : Nat) ≤ (2 ^ 63 - 1) / 8 := by decide
    omega
  have hfit : ¬ (!Builtin.List.listFitsIndex k) = true := by
    rw [fitsIndex_both h1 h2]
    decide
  have hlong : ¬ Builtin.List.listTooLong (its.toArray.size * k.toNat) = true := by
    rw [notLongL hlen]
    decide
  have hnew : List.foldl (fun x1 x2 => x1 ++ x2) #[] (List.replicate (if its.toArray.isEmpty = true then 0 else k.toNat) its.toArray) = (List.replicate k.toNat its).flatten.toArray := by
    have f0 : ∀ m : Nat, List.foldl (fun x1 x2 => x1 ++ x2) #[] (List.replicate m its.toArray) = (List.replicate m its).flatten.toArray := fun m => by
      have z := foldl_rep its m []
      rw [List.nil_append] at z
      exact z
    rw [f0]
    cases its with
    | nil => simp
    | cons a r' => rw [if_neg (by simp)]
  have t1 : s.TypeIs (.ref l) "list" := ⟨_, e, rfl⟩
  refine wpAny_binaryOp_repeat_ref (T := "list") (U := "int") (by decide) t1 (fun s' => typeIs_int s' k t) noFill_list_mul F.fills_int_mul F.slot_int_rmul repeat_list F.slot_int_index.lookup
    (call_meets F.slot_int_rmul (typeIs_int s k t) F.entry_int_rmul (F.args_int_rmul_2 _ _) (rmul_any k t l its.toArray n1 none s1)
      ⟨e, rfl, t1, call_meets F.slot_list_mul t1 F.entry_list_mul (F.args_list_mul_2 _ _) (mul_any l its.toArray n1 none s1 k t hfit hcap hlong) ⟨e, ?_⟩⟩)
  rw [hnew]
  exact ⟨.ref _, _, I.lnew (t' := s.toks) (r.rep k.toNat) (by rw [PyProof.Rows.lm_len_rep_flat, Nat.mul_comm]; exact hz), rfl, q _ I.fresh⟩
theorem mt_extL : MtM X "list.extend" (fun x vs H Q => ∃ l b xs zs, x = .ref l ∧ vs = [.ref b] ∧ H l = some (.lst xs) ∧ (SqL X.K H b zs ∨ SqT X.K H b zs) ∧ xs.length + zs.length ≤ sizeLine ∧ Q .non (upd H l (.lst (xs ++ zs)))) := by
  intro pins s σ H x vs v us Q I rx rv h
  obtain ⟨l, b, xs, zs, rfl, rfl, hH, hB, hz, q⟩ := h
  cases rx
  obtain ⟨u, rfl, ru⟩ := rv.one
  cases ru
  obtain ⟨z, its, n, r, hl, e⟩ := I.lstM hH
  have t1 : s.TypeIs (.ref l) "list" := ⟨_, e, rfl⟩
  rcases hB with hB | hB
  · obtain ⟨its2, r2, ⟨⟨c2, d2, a2, s2⟩, n2, e2, k4, k5, k6⟩, z2⟩ := I.list hB
    simp only at k4 k5 k6
    subst k4 k5 k6
    have hl2 := r2.length
    have hsz : its.toArray.size + its2.toArray.size ≤ sizeLine := by rw [List.size_toArray, List.size_toArray]; omega
    have hlong : ¬ (!its.toArray.isEmpty && Builtin.List.listTooLong (its.toArray.size + its2.toArray.size)) = true := by
      rw [notLongL hsz, Bool.and_false]
      decide
    refine call_meets F.slot_list_extend t1 F.entry_list_extend (F.args_list_extend_2 _ _)
      (ext_any l b its.toArray its2.toArray n n2 none s2 hlong (by rw [List.size_toArray]; omega) (by omega)) ⟨e, e2, ?_⟩
    refine ⟨.non, _, I.lset (its' := its ++ its2) hH e (by simp) (r.append r2) ?_, rfl, q⟩
    rw [List.length_append]
    omega
  · obtain ⟨its2, r2, ⟨⟨c2, d2, a2, s2⟩, e2, k4, n2, k5⟩, z2⟩ := I.tuple hB
    simp only at k4 k5
    subst k4 k5
    have hl2 := r2.length
    have hsz : its.toArray.size + its2.toArray.size ≤ sizeLine := by rw [List.size_toArray, List.size_toArray]; omega
    have hlong : ¬ (!its.toArray.isEmpty && Builtin.List.listTooLong (its.toArray.size + its2.toArray.size)) = true := by
      rw [notLongL hsz, Bool.and_false]
      decide
    refine call_meets F.slot_list_extend t1 F.entry_list_extend (F.args_list_extend_2 _ _)
      (ext_anyT l b its.toArray its2.toArray n n2 d2 s2 hlong (by rw [List.size_toArray]; omega) (by omega)) ⟨e, e2, ?_⟩
    refine ⟨.non, _, I.lset (its' := its ++ its2) hH e (by simp) (r.append r2) ?_, rfl, q⟩
    rw [List.length_append]
    omega
end
end Vd
/-! Vd4: operators. -/
namespace Vd
open PySem PySem.Spec PyProof.Rows L2

section
variable {g : Gx} {σ : L2.St} {Hb H : Hp} {e : VE} {p : Addr} {o : HO}
theorem not_ow (I : VS g Hb e σ H) (hp : H p = none) : ¬ Ow g e σ p := fun z => by
  obtain ⟨u, h⟩ := Ow.there I z
  rw [hp] at h; cases h
theorem PK.temp (I : VS g Hb e σ H) (hp : H p = none) : PK g σ Hb H e Hb (upd H p o) e := ⟨.temp hp, I.temp hp, .refl e⟩
theorem PK.new (I : VS g Hb e σ H) (hp : H p = none) : PK g σ Hb H e (upd Hb p o) (upd H p o) e := by
  have hb := I.ex.back hp
  exact ⟨.new hp hb, (I.temp hp).keep upd_same (not_ow I hp) hb, .refl e⟩
theorem RV.temp {c : OC} (I : VS g Hb e σ H) (hp : H p = none) (r : RO g Hb (upd H p o) c p) : RV g H Hb (upd H p o) e σ (.fr c) (.ref p) :=
  ⟨p, rfl, hp, I.ex.back hp, r, not_ow I hp⟩
end
/-- an operation of two data is sound -/
def Op2Ok (g : Gx) (X : Cx) (f : Value → Value → Sem Value) (a b : D) (v : Val) : Prop :=
  ∀ e σ Hb H x y (Q : VK), VS g Hb e σ H → RR g Hb H a x → RR g Hb H b y → (∀ z Hb' H', PK g σ Hb H e Hb' H' e → RV g H Hb' H' e σ v z → Q z H') → rW X f x y H Q
section
variable {g : Gx} {X : Cx} {f : Value → Value → Sem Value}
/-- .. whose answer is plain data, by a rule that leaves the heap -/
theorem Op2Ok.pure {a b d : D} {r : R2} (h : OpR X f r) (k : ∀ Hb H x y, Ex Hb H → RR g Hb H a x → RR g Hb H b y → ∃ z, (∀ Hb, Rp g Hb d z) ∧ ∀ Q : VK, Q z H → r x y H Q) : Op2Ok g X f a b (.p d) := by
  intro e σ Hb H x y Q I ra rb q
  obtain ⟨z, hz, hr⟩ := k Hb H x y I.ex ra rb
  exact rW_of h (hr Q (q z Hb H (.refl I) (hz Hb)))
def o2 : O2 → Operator
  | .add => .Add
  | .sub => .Sub
  | .mul => .Mult
  | .fdiv => .FloorDiv
  | .mod => .Mod
  | .pow => .Pow
theorem line_eq : line = sizeLine := by rw [sizeLine_eq]; rfl
theorem len_sT (l : List Nat) : (sT l).length = l.length := by
  show (l.toArray).size = l.length
  simp
theorem sT_app (l m : List Nat) : sT l ++ sT m = sT (l ++ m) := by
  show (⟨l.toArray ++ m.toArray⟩ : Str) = ⟨(l ++ m).toArray⟩
  simp
theorem Rps.nil_iff {H : Hp} {l : List D} {vs : List V} (h : Rps g H l vs) : vs = [] ↔ l = [] := by
  have := h.length
  rw [← List.length_eq_zero_iff, ← List.length_eq_zero_iff, this]
theorem dget_k {H : Hp} {a : Addr} {kvs : List (Key × V)} {k : Key} (h : Rd H a (.dK kvs)) : DGet H a (kV k) (valV kvs k) := .inl ⟨kvs, k, h, rfl, rfl⟩
theorem bop_ok (hK : X.K = g.K) {o : O2} {a b : D} {v : Val} (h : bop o a b = some v) : Op2Ok g X (binaryOp (o2 o)) a b v := by
  have hl := line_eq
  unfold bop at h
  split at h
  · cases h
    refine .pure op_add fun Hb H x y ex ra rb => ⟨_, fun _ => rfl, fun Q q => ⟨_, _, ra, rb, q⟩⟩
  · split at h
    · rename_i a b hz
      cases h
      refine .pure op_add_str fun Hb H x y ex ra rb => ⟨.str (sT a ++ sT b), fun _ => ⟨by rw [sT_app], by rw [List.length_append]; omega⟩, fun Q q => ⟨_, _, ra.1, rb.1, by rw [len_sT, len_sT]; omega, q⟩⟩
    · cases h
  · split at h
    · rename_i a b hz
      cases h
      intro e σ Hb H x y Q I ra rb q
      obtain ⟨p, vs, rfl, h1, r1⟩ := ra
      obtain ⟨p2, ws, rfl, h2, r2⟩ := rb
      refine rW_of op_catL ⟨p, p2, vs, ws, rfl, rfl, by rw [hK]; exact h1, by rw [hK]; exact h2, by rw [r1.length, r2.length]; omega, fun n hn => ?_⟩
      exact q _ _ _ (.temp I hn) (RV.temp I hn ⟨_, upd_same, r1.app r2⟩)
    · cases h
  · split at h
    · rename_i a b hz
      cases h
      intro e σ Hb H x y Q I ra rb q
      obtain ⟨p, vs, rfl, h1, r1⟩ := ra
      obtain ⟨p2, ws, rfl, h2, r2⟩ := rb
      have hh : SqT X.K H p vs := by rw [hK]; exact I.ex.sqt h1
      have hh2 : SqT X.K H p2 ws := by rw [hK]; exact I.ex.sqt h2
      refine rW_of op_catA ⟨p, p2, vs, ws, rfl, rfl, hh, hh2, by rw [r1.length, r2.length]; omega, fun e1 => ?_, fun _ e2 => ?_, fun _ _ n hn => ?_⟩
      · have := r1.nil_iff.mp e1
        subst this
        exact q _ _ _ (.refl I) ⟨p2, ws, rfl, h2, r2⟩
      · have := r2.nil_iff.mp e2
        subst this
        refine q _ _ _ (.refl I) ⟨p, vs, rfl, h1, ?_⟩
        rw [List.append_nil]; exact r1
      · have hb := I.ex.back hn
        exact q _ _ _ (.new I hn) ⟨n, _, rfl, .of upd_same, (Rps.mono (.new hb) _ _ r1).app (Rps.mono (.new hb) _ _ r2)⟩
    · cases h
  · cases h
    refine .pure op_sub fun Hb H x y ex ra rb => ⟨_, fun _ => rfl, fun Q q => ⟨_, _, ra, rb, q⟩⟩
  · split at h
    · rename_i i j hz
      cases h
      refine .pure op_mul fun Hb H x y ex ra rb => ⟨_, fun _ => rfl, fun Q q => ⟨_, _, ra, rb, hz, q⟩⟩
    · cases h
  · split at h
    · rename_i a k hz
      cases h
      intro e σ Hb H x y Q I ra rb q
      obtain ⟨p, vs, rfl, h1, r1⟩ := ra
      obtain ⟨z1, z2, z3⟩ := hz
      refine rW_of op_repL ⟨p, k, vs, rfl, rb, by rw [hK]; exact h1, by omega, by omega, by rw [r1.length]; omega, fun n hn => ?_⟩
      exact q _ _ _ (.temp I hn) (RV.temp I hn ⟨_, upd_same, r1.rep _⟩)
    · cases h
  · split at h
    · rename_i a k hz
      cases h
      intro e σ Hb H x y Q I ra rb q
      obtain ⟨p, vs, rfl, h1, r1⟩ := ra
      obtain ⟨z0, z1, z2, z3⟩ := hz
      have hh : SqT X.K H p vs := by rw [hK]; exact I.ex.sqt h1
      have hne : vs ≠ [] := fun e1 => by
        have := r1.nil_iff.mp e1
        subst this
        cases z0
      by_cases k0 : k = 0
      · subst k0
        refine rW_of op_repT0 ⟨p, vs, rfl, rb, hh, hne, fun n hn => ?_⟩
        have hb := I.ex.back hn
        exact q _ _ _ (.new I hn) ⟨n, [], rfl, .of upd_same, rfl⟩
      by_cases k1 : k = 1
      · subst k1
        refine rW_of op_repT1 ⟨p, vs, rfl, rb, hh, q _ _ _ (.refl I) ?_⟩
        have e1 : (List.replicate (1 : Int).toNat a).flatten = a := by
          rw [show ((1 : Int)).toNat = 1 from rfl, List.replicate_one]; simp
        rw [e1]
        exact ⟨p, vs, rfl, h1, r1⟩
      refine rW_of op_repT2 ⟨p, k, vs, rfl, rb, hh, hne, by omega, z2, by rw [r1.length, ← line_eq]; exact z3, fun n hn => ?_⟩
      have hb := I.ex.back hn
      exact q _ _ _ (.new I hn) ⟨n, _, rfl, .of upd_same, (Rps.mono (.new hb) _ _ r1).rep _⟩
    · cases h
  · split at h
    · rename_i a k hz
      cases h
      obtain ⟨z0, z1, z2, z3⟩ := hz
      refine .pure op_repS fun Hb H x y ex ra rb => ⟨.str (sT (List.replicate k.toNat a).flatten), fun _ => ⟨rfl, by rw [rep_len, Nat.mul_comm, ← line_eq]; exact z3⟩, fun Q q => ⟨a, k, ra.1, rb, fun e => ?_, z1, z2, by rw [← line_eq]; exact z3, q⟩⟩
      subst e
      cases z0
    · cases h
  · split at h
    · rename_i i j hz
      cases h
      refine .pure op_fdiv fun Hb H x y ex ra rb => ⟨_, fun _ => rfl, fun Q q => ⟨_, _, ra, rb, hz, q⟩⟩
    · cases h
  · split at h
    · rename_i i j hz
      cases h
      refine .pure op_mod fun Hb H x y ex ra rb => ⟨_, fun _ => rfl, fun Q q => ⟨_, _, ra, rb, hz, q⟩⟩
    · cases h
  · split at h
    · rename_i i j hz
      cases h
      refine .pure op_pow fun Hb H x y ex ra rb => ⟨_, fun _ => rfl, fun Q q => ⟨_, _, ra, rb, hz, q⟩⟩
    · cases h
  · cases h

/-! ### comparisons -/
theorem sT_inj {a b : List Nat} : (sT a = sT b) ↔ a = b := by
  constructor
  · intro h
    have h' : (⟨a.toArray⟩ : Str) = ⟨b.toArray⟩ := h
    simpa using h'
  · rintro rfl; rfl
mutual
theorem deq_py : ∀ a b : D, plain a = true → plain b = true → PyData.eqv (toPy a) (toPy b) = deq a b
  | .non, b, _, hb => by cases b <;> first | (cases hb; done) | simp [toPy, PyData.eqv, deq]
  | .bl x, b, _, hb => by cases b <;> first | (cases hb; done) | (simp [toPy, PyData.eqv, deq]; done) | (simp [toPy, PyData.eqv, deq]; split <;> simp)
  | .int i, b, _, hb => by cases b <;> first | (cases hb; done) | (simp [toPy, PyData.eqv, deq]; done) | (simp [toPy, PyData.eqv, deq]; split <;> simp)
  | .str s, b, _, hb => by
    cases b with
    | str t =>
      simp only [toPy, PyData.eqv, deq]
      rw [Bool.eq_iff_iff]
      simp [sT_inj]
    | _ => first | (cases hb; done) | simp [toPy, PyData.eqv, deq]
  | .lst l, b, ha, hb => by
    cases b with
    | lst m => simp only [toPy, PyData.eqv, deq]; exact deqs_py l m ha hb
    | _ => first | (cases hb; done) | simp [toPy, PyData.eqv, deq]
  | .tup l, b, ha, hb => by
    cases b with
    | tup m => simp only [toPy, PyData.eqv, deq]; exact deqs_py l m ha hb
    | _ => first | (cases hb; done) | simp [toPy, PyData.eqv, deq]
theorem deqs_py : ∀ a b : List D, plains a = true → plains b = true → PyData.eqvAll (toPys a) (toPys b) = deqs a b
  | [], [], _, _ => by simp [toPys, PyData.eqvAll, deqs]
  | [], _ :: _, _, _ => by simp [toPys, PyData.eqvAll, deqs]
  | _ :: _, [], _, _ => by simp [toPys, PyData.eqvAll, deqs]
  | a :: l, b :: m, ha, hb => by
    simp only [plains, Bool.and_eq_true] at ha hb
    simp only [toPys, PyData.eqvAll, deqs]
    rw [deq_py a b ha.1 hb.1, deqs_py l m ha.2 hb.2]
end
mutual
theorem dep_py : ∀ a : D, (toPy a).depth ≤ dep a
  | .non => by simp [toPy, PyData.depth]
  | .bl _ => by simp [toPy, PyData.depth]
  | .int _ => by simp [toPy, PyData.depth]
  | .str _ => by simp [toPy, PyData.depth]
  | .dct _ => by simp [toPy, PyData.depth]
  | .ins _ _ => by simp [toPy, PyData.depth]
  | .exc _ _ => by simp [toPy, PyData.depth]
  | .th _ => by simp [toPy, PyData.depth]
  | .lst l => by simp only [toPy, PyData.depth, dep]; have := deps_py l; omega
  | .tup l => by simp only [toPy, PyData.depth, dep]; have := deps_py l; omega
theorem deps_py : ∀ a : List D, PyData.depthAll (toPys a) ≤ deps a
  | [] => by simp [toPys, PyData.depthAll]
  | a :: l => by
    simp only [toPys, PyData.depthAll, deps]
    have h1 := dep_py a
    have h2 := deps_py l
    show max _ _ ≤ max _ _
    omega
end
mutual
theorem plain_py : ∀ a : D, plain a = true → (toPy a).plain = true
  | .non, _ => rfl
  | .bl _, _ => rfl
  | .int _, _ => rfl
  | .str _, _ => rfl
  | .dct _, h => by cases h
  | .ins _ _, h => by cases h
  | .exc _ _, h => by cases h
  | .th _, h => by cases h
  | .lst l, h => by simp only [toPy, PyData.plain]; exact plains_py l h
  | .tup l, h => by simp only [toPy, PyData.plain]; exact plains_py l h
theorem plains_py : ∀ a : List D, plains a = true → PyData.plainAll (toPys a) = true
  | [], _ => rfl
  | a :: l, h => by
    simp only [plains, Bool.and_eq_true] at h
    simp only [toPys, PyData.plainAll, plain_py a h.1, plains_py l h.2, Bool.and_self]
end
mutual
theorem dp_of {H : Hp} : ∀ (d : D) (v : V), plain d = true → Rp g H d v → Dp g.K H v (toPy d)
  | .non, v, _, h => by cases h; exact .non
  | .bl b, v, _, h => by cases h; exact .bl b
  | .int i, v, _, h => by cases h; exact .int i
  | .str l, v, _, h => by cases h.1; exact .str _
  | .dct _, _, h, _ => by cases h
  | .ins _ _, _, h, _ => by cases h
  | .exc _ _, _, h, _ => by cases h
  | .th _, _, h, _ => by cases h
  | .lst l, v, h, r => by
    obtain ⟨a, vs, rfl, h1, h2⟩ := r
    simp only [toPy]
    exact .lst h1 (dps_of l vs h h2)
  | .tup l, v, h, r => by
    obtain ⟨a, vs, rfl, h1, h2⟩ := r
    simp only [toPy]
    exact .tup h1 (dps_of l vs h h2)
theorem dps_of {H : Hp} : ∀ (d : List D) (v : List V), plains d = true → Rps g H d v → DpAll g.K H v (toPys d)
  | [], v, _, h => by cases h; exact .nil
  | a :: l, v, h, r => by
    obtain ⟨x, xs, rfl, h1, h2⟩ := r
    simp only [plains, Bool.and_eq_true] at h
    exact .cons (dp_of a x h.1 h1) (dps_of l xs h.2 h2)
end
def cq : Cq → CmpOp
  | .eq => .Eq
  | .ne => .NotEq
  | .lt => .Lt
  | .le => .LtE
  | .gt => .Gt
  | .ge => .GtE
  | .isin => .In
  | .notin => .NotIn
  | .is => .Is
  | .isnt => .IsNot
theorem any_py (a : D) (ha : plain a = true) : ∀ l : List D, plains l = true → ((toPys l).any fun y => PyData.eqv y (toPy a)) = inD a l
  | [], _ => rfl
  | b :: l, h => by
    simp only [plains, Bool.and_eq_true] at h
    have ih := any_py a ha l h.2
    unfold inD at ih ⊢
    rw [List.any_cons, ← ih, ← deq_py b a h.1 ha]
    simp only [toPys, List.any_cons]
theorem kT_inj {a b : DK} (h : kT a = kT b) : a = b := by
  cases a with
  | inl i => cases b with
    | inl j => rw [Sum.inl.inj h]
    | inr m => cases h
  | inr l => cases b with
    | inl j => cases h
    | inr m => rw [sT_inj.mp (Sum.inr.inj h)]
theorem rpk_look {H : Hp} (k : DK) : ∀ {l : List (DK × D)} {kvs : List (Key × V)}, Rpk g H l kvs → (∀ d, look k l = some d → ∃ v, valV kvs (kT k) = some v ∧ Rp g H d v) ∧ (look k l = none → valV kvs (kT k) = none)
  | [], _, h => by cases h; exact ⟨fun d z => (nomatch z), fun _ => rfl⟩
  | (j, d) :: l, _, h => by
    obtain ⟨v, r, rfl, h1, h2⟩ := h
    have ih := rpk_look k h2
    by_cases q : j = k
    · subst q
      rw [valV_pos rfl]
      unfold look
      rw [if_pos rfl]
      exact ⟨fun d' z => ⟨v, rfl, by cases z; exact h1⟩, fun z => (nomatch z)⟩
    · rw [valV_neg (fun z => q (kT_inj z))]
      unfold look
      rw [if_neg q]
      exact ih
theorem rpk_some {H : Hp} {k : DK} {l : List (DK × D)} {kvs : List (Key × V)} (h : Rpk g H l kvs) : (valV kvs (kT k)).isSome = hasK k l := by
  obtain ⟨h1, h2⟩ := rpk_look k h
  unfold hasK
  cases q : look k l with
  | none => rw [h2 q]; rfl
  | some d =>
    obtain ⟨v, e, _⟩ := h1 d q
    rw [e]; rfl
theorem rpk_any {H : Hp} {k : DK} : ∀ {l : List (DK × D)} {kvs : List (Key × V)}, Rpk g H l kvs → (kvs.any fun p => decide (p.1 = kT k)) = l.any fun p => decide (p.1 = k)
  | [], _, h => by cases h; rfl
  | (j, d) :: l, _, h => by
    obtain ⟨v, r, rfl, h1, h2⟩ := h
    rw [List.any_cons, List.any_cons, rpk_any h2]
    congr 1
    rw [decide_eq_decide]
    exact ⟨fun z => kT_inj z, fun z => congrArg kT z⟩
theorem rpk_map {H : Hp} {k : DK} {d : D} {v : V} (hv : Rp g H d v) : ∀ {l : List (DK × D)} {kvs : List (Key × V)}, Rpk g H l kvs → Rpk g H (l.map fun p => if p.1 = k then (p.1, d) else p) (kvs.map fun p => if p.1 = kT k then (p.1, v) else p)
  | [], _, h => by cases h; rfl
  | (j, d') :: l, _, h => by
    obtain ⟨w, r, rfl, h1, h2⟩ := h
    have ih := rpk_map (k := k) hv h2
    rw [List.map_cons, List.map_cons]
    by_cases q : j = k
    · subst q
      rw [if_pos rfl, if_pos rfl]
      exact ⟨v, _, rfl, hv, ih⟩
    · rw [if_neg q, if_neg (fun z => q (kT_inj z))]
      exact ⟨w, _, rfl, h1, ih⟩
theorem rpk_app {H : Hp} {k : DK} {d : D} {v : V} (hv : Rp g H d v) : ∀ {l : List (DK × D)} {kvs : List (Key × V)}, Rpk g H l kvs → Rpk g H (l ++ [(k, d)]) (kvs ++ [(kT k, v)])
  | [], _, h => by cases h; exact ⟨v, [], rfl, hv, rfl⟩
  | (j, d') :: l, _, h => by
    obtain ⟨w, r, rfl, h1, h2⟩ := h
    exact ⟨w, _, rfl, h1, rpk_app hv h2⟩
theorem rpk_put {H : Hp} {k : DK} {d : D} {v : V} (hv : Rp g H d v) {l : List (DK × D)} {kvs : List (Key × V)} (h : Rpk g H l kvs) : Rpk g H (putD l k d) (putK kvs (kT k) v) := by
  unfold putD putK
  rw [rpk_any h]
  split
  · exact rpk_map hv h
  · exact rpk_app hv h
theorem rpk_len {H : Hp} : ∀ {l : List (DK × D)} {kvs : List (Key × V)}, Rpk g H l kvs → kvs.length = l.length
  | [], _, h => by cases h; rfl
  | (j, d') :: l, _, h => by
    obtain ⟨w, r, rfl, h1, h2⟩ := h
    simp [rpk_len h2]
theorem key_V {H : Hp} {d : D} {x : V} {k : DK} (h : keyOf d = some k) (r : Rp g H d x) : x = kV (kT k) := by
  cases d with
  | int i => cases h; exact r
  | str l => cases h; exact r.1
  | _ => cases h
theorem blV_rv {H0 Hb H : Hp} {e : VE} {σ : L2.St} (b : Bool) : RV g H0 Hb H e σ (blV b) (.bl b) := rfl
theorem tup_RR {Hb H : Hp} {l : List D} {x : V} (h : RR g Hb H (.tup l) x) : Rp g Hb (.tup l) x := h
theorem isnon {Hb H : Hp} {a : D} {x : V} (ra : RR g Hb H a x) : decide (x = .non) = isNon a := by
  cases a with
  | non => cases ra; rfl
  | bl b => cases ra; rfl
  | int i => cases ra; rfl
  | str l =>
    have r : x = .str (sT l) ∧ _ := ra
    rw [r.1]; rfl
  | tup l => obtain ⟨_, _, rfl, _⟩ := ra; rfl
  | lst l => obtain ⟨_, _, rfl, _⟩ := ra; rfl
  | dct l => obtain ⟨_, _, rfl, _⟩ := ra; rfl
  | ins c l => obtain ⟨_, _, _, rfl, _⟩ := ra; rfl
  | exc c l => obtain ⟨_, _, _, rfl, _⟩ := ra; rfl
  | th k => cases ra; rfl
/-- comparisons -/
theorem cop_ok (hK : X.K = g.K) (hu : X.A.units + 64 < cLine) {o : Cq} {a b : D} {t : Bool} (h : cop o a b = some t) : Op2Ok g X (compareOp (cq o)) a b (blV t) := by
  have scal : ∀ {r : R2} (hr : OpR X (compareOp (cq o)) r), (∀ Hb H x y, Ex Hb H → RR g Hb H a x → RR g Hb H b y → ∀ Q : VK, Q (.bl t) H → r x y H Q) → Op2Ok g X (compareOp (cq o)) a b (blV t) := fun hr k =>
    .pure hr fun Hb H x y ex ra rb => ⟨.bl t, fun _ => rfl, k Hb H x y ex ra rb⟩
  have eqs : ∀ (neg : Bool), eqOk a b = true → (o = if neg then .ne else .eq) → t = (if neg then !deq a b else deq a b) → Op2Ok g X (compareOp (cq o)) a b (blV t) := fun neg ok ho ht => by
    unfold eqOk at ok
    simp only [Bool.and_eq_true, decide_eq_true_eq] at ok
    obtain ⟨⟨pa, pb⟩, hd⟩ := ok
    intro e σ Hb H x y Q I ra rb q pins s σ' v u J rx ry
    have Da := dp_of a x pa (ra.rp I.ex)
    have Db := dp_of b y pb (rb.rp I.ex)
    rw [← hK] at Da Db
    obtain ⟨as, r1⟩ := Dp.reads J _ x v Da rx
    obtain ⟨bs, r2⟩ := Dp.reads J _ y u Db ry
    have hd' : X.A.units + min (toPy a).depth (toPy b).depth < cLine := by
      have := dep_py a
      have := dep_py b
      have hd : min (dep a) (dep b) ≤ 40 := hd
      omega
    have fin : EP X pins σ' Q (.bool t) s := ⟨.bl t, H, J, rfl, q _ _ _ (.refl I) (blV_rv t)⟩
    cases neg with
    | false =>
      have ho' : o = .eq := ho
      subst ho'
      refine SeqAt.eq_plain r1 r2 (plain_py a pa) (plain_py b pb) hd' ?_
      rw [deq_py a b pa pb]
      rw [if_neg (by decide)] at ht
      rw [← ht]; exact fin
    | true =>
      have ho' : o = .ne := ho
      subst ho'
      refine SeqAt.ne_plain r1 r2 (plain_py a pa) (plain_py b pb) hd' ?_
      rw [deq_py a b pa pb]
      rw [if_pos rfl] at ht
      rw [← ht]; exact fin
  have ins : ∀ (neg tp : Bool) (l : List D), b = (if tp then .tup l else .lst l) → inOk a l = true → (o = if neg then .notin else .isin) → t = (if neg then !inD a l else inD a l) → Op2Ok g X (compareOp (cq o)) a b (blV t) := fun neg tp l hb ok ho ht => by
    unfold inOk at ok
    simp only [Bool.and_eq_true, decide_eq_true_eq] at ok
    obtain ⟨⟨pa, pl⟩, hd⟩ := ok
    intro e σ Hb H x y Q I ra rb q pins s σ' v u J rx ry
    have pb : plain b = true := by subst hb; cases tp <;> exact pl
    have Da := dp_of a x pa (ra.rp I.ex)
    have Db := dp_of b y pb (rb.rp I.ex)
    rw [← hK] at Da Db
    obtain ⟨as, r1⟩ := Dp.reads J _ x v Da rx
    obtain ⟨bs, r2⟩ := Dp.reads J _ y u Db ry
    have hd' : X.A.units + 1 + min (PyData.depthAll (toPys l)) (toPy a).depth < cLine := by
      have := dep_py a
      have := deps_py l
      have hd : min (deps l) (dep a) ≤ 40 := hd
      omega
    have fin : EP X pins σ' Q (.bool t) s := ⟨.bl t, H, J, rfl, q _ _ _ (.refl I) (blV_rv t)⟩
    cases neg with
    | false =>
      have ho' : o = .isin := ho
      subst ho'
      rw [if_neg (by decide)] at ht
      rw [ht, ← any_py a pa l pl] at fin
      cases tp with
      | true =>
        have hb' : b = .tup l := hb
        subst hb'
        exact SeqAt.in_tuple_data r2 r1 (plains_py l pl) (plain_py a pa) hd' fin
      | false =>
        have hb' : b = .lst l := hb
        subst hb'
        exact SeqAt.in_list_data r2 r1 (plains_py l pl) (plain_py a pa) hd' fin
    | true =>
      have ho' : o = .notin := ho
      subst ho'
      rw [if_pos rfl] at ht
      rw [ht, ← any_py a pa l pl] at fin
      cases tp with
      | true =>
        have hb' : b = .tup l := hb
        subst hb'
        exact SeqAt.notIn_tuple_data r2 r1 (plains_py l pl) (plain_py a pa) hd' fin
      | false =>
        have hb' : b = .lst l := hb
        subst hb'
        exact SeqAt.notIn_list_data r2 r1 (plains_py l pl) (plain_py a pa) hd' fin
  unfold cop at h
  split at h
  · split at h
    · cases h; exact eqs false (by assumption) rfl rfl
    · cases h
  · split at h
    · cases h; exact eqs true (by assumption) rfl rfl
    · cases h
  · cases h; exact scal op_lt fun Hb H x y ex ra rb Q q => ⟨_, _, ra, rb, q⟩
  · cases h; exact scal op_le fun Hb H x y ex ra rb Q q => ⟨_, _, ra, rb, q⟩
  · cases h; exact scal op_gt fun Hb H x y ex ra rb Q q => ⟨_, _, ra, rb, q⟩
  · cases h; exact scal op_ge fun Hb H x y ex ra rb Q q => ⟨_, _, ra, rb, q⟩
  · cases h; exact scal op_lt_str fun Hb H x y ex ra rb Q q => ⟨_, _, ra.1, rb.1, q⟩
  · cases h; exact scal op_le_str fun Hb H x y ex ra rb Q q => ⟨_, _, ra.1, rb.1, q⟩
  · cases h; exact scal op_gt_str fun Hb H x y ex ra rb Q q => ⟨_, _, ra.1, rb.1, q⟩
  · cases h; exact scal op_ge_str fun Hb H x y ex ra rb Q q => ⟨_, _, ra.1, rb.1, q⟩
  · rename_i a
    cases h
    refine scal op_isN fun Hb H x y ex ra rb Q q => ⟨rb, ?_⟩
    rw [isnon ra]; exact q
  · rename_i a
    cases h
    refine scal op_notN fun Hb H x y ex ra rb Q q => ⟨rb, ?_⟩
    rw [isnon ra]; exact q
  · rename_i a b
    cases h
    refine scal op_is_bl fun Hb H x y ex ra rb Q q => ⟨a, b, ra, rb, ?_⟩
    have : decide (a = b) = (a == b) := by cases a <;> cases b <;> rfl
    rw [this]; exact q
  · rename_i a b
    cases h
    refine scal op_isnot_bl fun Hb H x y ex ra rb Q q => ⟨a, b, ra, rb, ?_⟩
    have : (!decide (a = b)) = (a != b) := by cases a <;> cases b <;> rfl
    rw [this]; exact q
  · split at h
    · cases h; exact ins false false _ rfl (by assumption) rfl rfl
    · cases h
  · split at h
    · cases h; exact ins false true _ rfl (by assumption) rfl rfl
    · cases h
  · cases h; exact scal op_in_sign fun Hb H x y ex ra rb Q q => ⟨_, _, ra.1, rb.1, q⟩
  · rename_i k l _
    cases hk : keyOf a with
    | none => rw [hk] at h; cases h
    | some k =>
      rw [hk] at h; cases h
      intro e σ Hb H x y Q I ra rb q pins s σ' v u J rx ry
      obtain ⟨p, kvs, rfl, h1, r1⟩ := rb
      cases ry
      have ex := key_V hk (ra.rp I.ex)
      refine d_in (by omega) J (dget_k h1) (by rw [← ex]; exact rx) fun s' J' => ?_
      rw [rpk_some r1]
      exact ⟨.bl _, H, J', rfl, q _ _ _ (.refl I) (blV_rv _)⟩
  · split at h
    · cases h; exact ins true false _ rfl (by assumption) rfl rfl
    · cases h
  · split at h
    · cases h; exact ins true true _ rfl (by assumption) rfl rfl
    · cases h
  · cases h; exact scal op_notIn_sign fun Hb H x y ex ra rb Q q => ⟨_, _, ra.1, rb.1, q⟩
  · cases hk : keyOf a with
    | none => rw [hk] at h; cases h
    | some k =>
      rw [hk] at h; cases h
      intro e σ Hb H x y Q I ra rb q pins s σ' v u J rx ry
      obtain ⟨p, kvs, rfl, h1, r1⟩ := rb
      cases ry
      have ex := key_V hk (ra.rp I.ex)
      refine d_notIn (by omega) J (dget_k h1) (by rw [← ex]; exact rx) fun s' J' => ?_
      rw [rpk_some r1]
      exact ⟨.bl _, H, J', rfl, q _ _ _ (.refl I) (blV_rv _)⟩
  · cases h
end
end Vd
/-! Vd5: what is kept from now on; names, constants, operators, displays. -/
namespace Vd
open PySem PySem.Spec PyProof.Rows L2

section
variable {g : Gx} {σ : L2.St} {Hb0 H0 Hb H : Hp} {e0 e : VE}
/-- known data, a slot, or a new object that is kept by now -/
def RK (g : Gx) (Hb : Hp) (e : VE) (σ : L2.St) : Val → V → Prop
  | .p d, x => Rp g Hb d x
  | .vw i, x => σ[i]? = some (some x) ∧ ∃ s, e[i]? = some s ∧ s ≠ .un
  | .fr c, x => Rp g Hb c.toD x
def RKs (g : Gx) (Hb : Hp) (e : VE) (σ : L2.St) : List Val → List V → Prop
  | [], xs => xs = []
  | v :: l, xs => ∃ x r, xs = x :: r ∧ RK g Hb e σ v x ∧ RKs g Hb e σ l r
theorem RK.mono {Hb' : Hp} {e' : VE} {v : Val} {x : V} (r : RK g Hb e σ v x) (b : Ex Hb Hb') (k : EK e e') : RK g Hb' e' σ v x := by
  cases v with
  | p d => exact Rp.mono b d x r
  | fr c => exact Rp.mono b _ x r
  | vw i =>
    obtain ⟨h1, s, h2, n⟩ := r
    obtain ⟨s', h3, q⟩ := k.at' i s h2
    refine ⟨h1, s', h3, ?_⟩
    rintro rfl
    cases q
    exact n rfl
theorem RKs.mono {Hb' : Hp} {e' : VE} (b : Ex Hb Hb') (k : EK e e') : ∀ {vs : List Val} {xs : List V}, RKs g Hb e σ vs xs → RKs g Hb' e' σ vs xs
  | [], _, h => h
  | v :: l, _, h => by
    obtain ⟨x, r, rfl, h1, h2⟩ := h
    exact ⟨x, r, rfl, h1.mono b k, RKs.mono b k h2⟩
/-- a temporary object of the stretch is kept -/
theorem PK.keep (p : PK g σ Hb0 H0 e0 Hb H e) {a : Addr} {o : HO} (h0 : H0 a = none) (ha : H a = some o) (hb : Hb a = none) (no : ¬ Ow g e σ a) : PK g σ Hb0 H0 e0 (upd Hb a o) H e :=
  ⟨⟨p.vp.b.trans (.new hb), p.vp.k, fun b u q => by
      by_cases z : b = a
      · subst z; exact .inr (.inl h0)
      · rw [upd_ne z] at q; exact p.vp.n b u q, p.vp.s, p.vp.t, p.vp.f⟩, p.st.keep ha no hb, p.ek⟩
theorem RV.other {v : Val} {y : V} {a : Addr} {o : HO} (r : RV g H0 Hb H e σ v y) (hb : Hb a = none) (n : ∀ c, v = .fr c → y ≠ .ref a) : RV g H0 (upd Hb a o) H e σ v y := by
  cases v with
  | p d => exact Rp.mono (.new hb) d y r
  | vw i => exact r
  | fr c =>
    obtain ⟨b, rfl, h0, h1, ro, no⟩ := r
    have ne : b ≠ a := fun z => n c rfl (by rw [z])
    exact ⟨b, rfl, h0, by rw [upd_ne ne]; exact h1, ro.mono (.new hb) fun _ h => h, no⟩
theorem RVs.other {a : Addr} {o : HO} (hb : Hb a = none) : ∀ {vs : List Val} {ys : List V}, RVs g H0 Hb H e σ vs ys → (∀ (j : Nat) c, vs[j]? = some (Val.fr c) → ys[j]? ≠ some (V.ref a)) → RVs g H0 (upd Hb a o) H e σ vs ys
  | [], _, h, _ => h
  | v :: l, _, h, n => by
    obtain ⟨x, r, rfl, h1, h2, h3⟩ := h
    refine ⟨x, r, rfl, h1.other hb fun c q z => ?_, RVs.other hb h2 fun j c q => ?_, h3⟩
    · exact n 0 c (by rw [q]; rfl) (by rw [z]; rfl)
    · exact n (j + 1) c (by simpa using q)
theorem RVs.keep : ∀ {vs : List Val} {xs : List V} {Hb : Hp}, PK g σ Hb0 H0 e0 Hb H e → RVs g H0 Hb H e σ vs xs → ∃ Hb', PK g σ Hb0 H0 e0 Hb' H e ∧ Ex Hb Hb' ∧ RKs g Hb' e σ vs xs
  | [], _, Hb, p, h => ⟨Hb, p, .refl _, h⟩
  | v :: l, _, Hb, p, h => by
    obtain ⟨x, r, rfl, h1, h2, h3⟩ := h
    cases v with
    | p d =>
      obtain ⟨Hb', p', b', k'⟩ := RVs.keep p h2
      exact ⟨Hb', p', b', x, r, rfl, Rp.mono b' d x h1, k'⟩
    | vw i =>
      obtain ⟨Hb', p', b', k'⟩ := RVs.keep p h2
      exact ⟨Hb', p', b', x, r, rfl, h1, k'⟩
    | fr c =>
      obtain ⟨a, rfl, h0, hb, ro, no⟩ := h1
      obtain ⟨o, ho, _⟩ := id ro.there
      have p1 := p.keep (o := o) h0 ho hb no
      have h2' := RVs.other (o := o) hb h2 fun j c' q => h3 c rfl j c' q
      obtain ⟨Hb', p', b', k'⟩ := RVs.keep p1 h2'
      have rp : Rp g (upd Hb a o) c.toD (.ref a) := (ro.mono (H' := upd Hb a o) (.new hb) fun u hu => by rw [ho] at hu; cases hu; exact upd_same).toD
      exact ⟨Hb', p', (Ex.new hb).trans b', _, r, rfl, Rp.mono b' _ _ rp, k'⟩
/-- a slot's own object is kept from now on -/
theorem PK.freeze (p : PK g σ Hb0 H0 e0 Hb H e) {i : Nat} {c : OC} (h : e[i]? = some (.own false false c)) : ∃ Hb', PK g σ Hb0 H0 e0 Hb' H (e.set i (.dat c.toD)) ∧ Ex Hb Hb' ∧ ∃ x, σ[i]? = some (some x) ∧ Rp g Hb' c.toD x := by
  have I := p.st
  obtain ⟨a, hs, hb, ro⟩ := I.own i _ _ c h
  obtain ⟨o, ho, _⟩ := id ro.there
  have rp : Rp g (upd Hb a o) c.toD (.ref a) := (ro.mono (H' := upd Hb a o) (.new hb) fun u hu => by rw [ho] at hu; cases hu; exact upd_same).toD
  have hi : i < e.length := (List.getElem?_eq_some_iff.mp h).1
  have ek : EK e (e.set i (.dat c.toD)) := .set h (.frz c _)
  have oth : ∀ (j : Nat) b k c', (e.set i (.dat c.toD))[j]? = some (SS.own b k c') → j ≠ i ∧ e[j]? = some (SS.own b k c') := fun j b k c' q => by
    by_cases z : i = j
    · subst z
      rw [List.getElem?_set_self hi] at q
      cases q
    · rw [List.getElem?_set_ne z] at q
      exact ⟨fun w => z w.symm, q⟩
  have tn : ¬ g.tb a := fun z => by
    obtain ⟨ps, q⟩ := (I.tbn a z).2
    obtain ⟨u, hu, n1, _⟩ := ro.there
    rw [q] at hu; cases hu
    exact n1 ps rfl
  refine ⟨upd Hb a o, p.trans ⟨⟨.new hb, fun _ _ q _ => q, fun b u q => ?_, fun b q => .inl (ek.ow q), fun _ q => q, fun _ _ _ q => q⟩, ⟨by rw [List.length_set]; exact I.len, fun b u q => ?_, fun j d q => ?_, fun j b k c' q => ?_, fun j l b k c1 b' k' c2 a' q1 q2 => ?_, I.tok, fun b q => ?_⟩, ek⟩, .new hb, .ref a, hs, rp⟩
  · by_cases z : b = a
    · subst z; exact .inr (.inr (.inr ⟨i, _, _, _, h, hs⟩))
    · rw [upd_ne z] at q; exact .inl q
  · by_cases z : b = a
    · subst z; rw [upd_same] at q; rw [ho]; exact q
    · rw [upd_ne z] at q; exact I.ex b u q
  · by_cases z : i = j
    · subst z
      rw [List.getElem?_set_self hi] at q
      cases q
      exact ⟨_, hs, rp⟩
    · rw [List.getElem?_set_ne z] at q
      obtain ⟨v, e1, e2⟩ := I.dat j d q
      exact ⟨v, e1, Rp.mono (.new hb) d v e2⟩
  · obtain ⟨nj, q'⟩ := oth j b k c' q
    obtain ⟨a', e1, e2, e3⟩ := I.own j b k c' q'
    have ne : a' ≠ a := fun z => nj (I.inj j i b k c' _ _ c a q' h (by rw [e1, z]) hs)
    exact ⟨a', e1, by rw [upd_ne ne]; exact e2, e3.mono (.new hb) fun _ h => h⟩
  · exact I.inj j l b k c1 b' k' c2 a' (oth j _ _ _ q1).2 (oth l _ _ _ q2).2
  · have ne : b ≠ a := fun z => tn (z ▸ q)
    exact ⟨by rw [upd_ne ne]; exact (I.tbn b q).1, (I.tbn b q).2⟩
theorem fz_ok (p : PK g σ Hb0 H0 e0 Hb H e) {v : Val} {x : V} {d : D} {e' : VE} (r : RK g Hb e σ v x) (h : fz e v = some (d, e')) : ∃ Hb', PK g σ Hb0 H0 e0 Hb' H e' ∧ Ex Hb Hb' ∧ EK e e' ∧ Rp g Hb' d x := by
  cases v with
  | p d' => cases h; exact ⟨Hb, p, .refl _, .refl _, r⟩
  | fr c => cases h; exact ⟨Hb, p, .refl _, .refl _, r⟩
  | vw i =>
    obtain ⟨h1, s, h2, n⟩ := r
    dsimp only [fz] at h
    rw [h2] at h
    split at h
    · rename_i d' hd
      cases h
      cases hd
      obtain ⟨v, e1, e2⟩ := p.st.dat i _ h2
      rw [h1] at e1; cases e1
      exact ⟨Hb, p, .refl _, .refl _, e2⟩
    · rename_i c hd
      cases h
      cases hd
      obtain ⟨Hb', p', b', x', e1, e2⟩ := p.freeze h2
      rw [h1] at e1; cases e1
      exact ⟨Hb', p', b', .set h2 (.frz _ _), e2⟩
    · cases h
theorem fzs_ok : ∀ {vs : List Val} {xs : List V} {Hb : Hp} {e : VE} {ds : List D} {e' : VE}, PK g σ Hb0 H0 e0 Hb H e → RKs g Hb e σ vs xs → fzs vs e = some (ds, e') → ∃ Hb', PK g σ Hb0 H0 e0 Hb' H e' ∧ Ex Hb Hb' ∧ Rps g Hb' ds xs
  | [], _, Hb, e, ds, e', p, r, h => by cases h; exact ⟨Hb, p, .refl _, r⟩
  | v :: l, _, Hb, e, ds, e', p, r, h => by
    obtain ⟨x, xs, rfl, r1, r2⟩ := r
    unfold fzs at h
    cases q : fz e v with
    | none => rw [q] at h; cases h
    | some y =>
      obtain ⟨d, e1⟩ := y
      rw [q] at h
      dsimp only [Option.bind] at h
      cases q' : fzs l e1 with
      | none => rw [q'] at h; cases h
      | some y =>
        obtain ⟨ds1, e2⟩ := y
        rw [q'] at h
        cases h
        obtain ⟨Hb1, p1, b1, k1, s1⟩ := fz_ok p r1 q
        obtain ⟨Hb2, p2, b2, s2⟩ := fzs_ok p1 (RKs.mono b1 k1 r2) q'
        exact ⟨Hb2, p2, b1.trans b2, x, xs, rfl, Rp.mono b2 d x s1, s2⟩
end

/-! ### names, constants, operators -/
section
variable {g : Gx} {kk : Nat} {X : Cx} {W : WX} {ce : CE}
theorem se_var {i : Nat} {x : Str} {pos : Pos} (hN : X.N[i]? = some x) (hv : Vis X.env.scope x) (hd : (x == ("__debug__" : Str)) = false) (hcd : (x == ("__classdict__" : Str)) = false) : SE g X W (.Name x pos) (ev ce (.var i)) := by
  intro e σ Hb H Q I h
  refine tW_of (pe_var hN hv hd hcd) ?_
  unfold ev at h
  split at h
  · rename_i d q
    obtain ⟨v, e1, r⟩ := I.dat i d q
    exact ⟨v, e1, h v Hb H (.refl I) r⟩
  · rename_i b k c q
    obtain ⟨a, e1, _, r⟩ := I.own i b k c q
    exact ⟨_, e1, h _ Hb H (.refl I) ⟨e1, _, q, by intro z; cases z⟩⟩
  · exact h.elim
theorem se_const {x : Expr} {d : D} {v : V} {t : T} (h : PE X x (tC v)) (r : ∀ Hb, Rp g Hb d v) (ht : ∀ e, ev ce t e = .ok (.p d) e) : SE g X W x (ev ce t) := by
  intro e σ Hb H Q I k
  rw [ht] at k
  exact tW_of h (k v Hb H (.refl I) (r Hb))
theorem se_bin {o : O2} {a b : Expr} {ta tb : T} {pos : Pos} (G : Good g kk X W) (ha : SE g X W a (ev ce ta)) (hb : SE g X W b (ev ce tb)) : SE g X W (.BinOp a (o2 o) b pos) (ev ce (.bin o ta tb)) := by
  intro e σ Hb H Q I h
  unfold ev at h
  refine tW_of (pe_op (op_W X _) (pe_W X a) (pe_W X b)) ?_
  refine ha e σ Hb H _ I (CA.bind early_V h fun v1 e1 x1 Hb1 H1 p1 r1 h1 => ?_)
  refine hb e1 σ Hb1 H1 _ p1.st (CA.bind early_V h1 fun v2 e2 x2 Hb2 H2 p2 r2 h2 => ?_)
  obtain ⟨d1, d2, v, q1, q2, q3, k⟩ := CA.op2' h2
  have r1' := r1.step p2
  exact bop_ok G.hK q3 e2 σ Hb2 H2 x1 x2 Q p2.st (r1'.read p2.st q1) (r2.read p2.st q2) k
theorem Good.hu (G : Good g kk X W) : X.A.units + 64 < cLine := G.hu'
theorem nomarkC {o : Cq} (b : Expr) (h : o ≠ .isin) (h2 : o ≠ .notin) : behindInMarks (cq o) b = false := by
  apply nobehind b
  · intro z; cases o <;> first | (cases z; done) | exact h rfl
  · intro z; cases o <;> first | (cases z; done) | exact h2 rfl
theorem se_cmp {o : Cq} {a b : Expr} {ta tb : T} {pos : Pos} (G : Good g kk X W) (hm : behindInMarks (cq o) b = false) (ha : SE g X W a (ev ce ta)) (hb : SE g X W b (ev ce tb)) : SE g X W (.Compare a [cq o] [b] pos) (ev ce (.cmp o ta tb)) := by
  intro e σ Hb H Q I h
  unfold ev at h
  refine tW_of (pe_cmpR (op_W X _) (pe_W X a) (pe_W X b) hm) ?_
  refine ha e σ Hb H _ I (CA.bind early_V h fun v1 e1 x1 Hb1 H1 p1 r1 h1 => ?_)
  refine hb e1 σ Hb1 H1 _ p1.st (CA.bind early_V h1 fun v2 e2 x2 Hb2 H2 p2 r2 h2 => ?_)
  obtain ⟨d1, d2, v, q1, q2, q3, k⟩ := CA.op2 h2
  have r1' := r1.step p2
  exact cop_ok G.hK G.hu q3 e2 σ Hb2 H2 x1 x2 Q p2.st (r1'.read p2.st q1) (r2.read p2.st q2) k
theorem se_chn {o o' : Cq} {a b c : Expr} {ta tb tc : T} {pos : Pos} (G : Good g kk X W) (hm : lastMarks [cq o, cq o'] [b, c] = false) (ha : SE g X W a (ev ce ta)) (hb : SE g X W b (ev ce tb)) (hc : SE g X W c (ev ce tc)) :
    SE g X W (.Compare a [cq o, cq o'] [b, c] pos) (ev ce (.chn o o' ta tb tc)) := by
  intro e σ Hb H Q I h
  unfold ev at h
  refine tW_of (pe_chain (op_W X _) (op_W X _) (pe_W X a) (pe_W X b) (pe_W X c) hm) ?_
  refine ha e σ Hb H _ I (CA.bind early_V h fun v1 e1 x1 Hb1 H1 p1 r1 h1 => ?_)
  refine hb e1 σ Hb1 H1 _ p1.st (CA.bind early_V h1 fun v2 e2 x2 Hb2 H2 p2 r2 h2 => ?_)
  obtain ⟨d1, d2, t, q1, q2, q3, k⟩ := CA.op2 h2
  have r1' := r1.step p2
  refine cop_ok G.hK G.hu q3 e2 σ Hb2 H2 x1 x2 _ p2.st (r1'.read p2.st q1) (r2.read p2.st q2) fun z Hb3 H3 p3 r3 => ?_
  have r3' : z = .bl t := r3
  refine ⟨t, r3', ?_⟩
  have k3 := CA.shift early_V p3 k
  cases t with
  | false =>
    rw [if_neg (by decide)] at k3 ⊢
    exact k3 _ _ _ (.refl p3.st) (blV_rv _)
  | true =>
    rw [if_pos rfl] at k3 ⊢
    refine hc e2 σ Hb3 H3 _ p3.st (CA.bind early_V k3 fun v4 e4 x4 Hb4 H4 p4 r4 h4 => ?_)
    obtain ⟨d3, d4, t', q4, q5, q6, k'⟩ := CA.op2 h4
    have r2' := (r2.step p3).step p4
    exact cop_ok G.hK G.hu q6 e4 σ Hb4 H4 x2 x4 Q p4.st (r2'.read p4.st q4) (r4.read p4.st q5) k'
theorem RR.bool {Hb H : Hp} {d : D} {x : V} {t : Bool} (r : RR g Hb H d x) (h : boolOf d = some t) : x = .bl t := by
  cases d <;> first | (cases h; done) | (cases h; exact r)
theorem se_and {a b : Expr} {rest : List Expr} {ta tb : T} {pos : Pos} (ha : SE g X W a (ev ce ta)) (hb : SE g X W (.BoolOp .And (b :: rest) pos) (ev ce tb)) : SE g X W (.BoolOp .And (a :: b :: rest) pos) (ev ce (.and ta tb)) := by
  intro e σ Hb H Q I h
  unfold ev at h
  refine tW_of (pe_and (pe_W X a) (pe_W X _)) ?_
  refine ha e σ Hb H _ I (CA.bind early_V h fun v1 e1 x1 Hb1 H1 p1 r1 h1 => ?_)
  obtain ⟨d, t, q1, q2, k⟩ := CA.op1 h1
  refine ⟨t, (r1.read p1.st q1).bool q2, ?_⟩
  cases t with
  | false => exact k _ _ _ (.refl p1.st) (blV_rv _)
  | true => exact hb e1 σ Hb1 H1 Q p1.st k
theorem se_or {a b : Expr} {rest : List Expr} {ta tb : T} {pos : Pos} (ha : SE g X W a (ev ce ta)) (hb : SE g X W (.BoolOp .Or (b :: rest) pos) (ev ce tb)) : SE g X W (.BoolOp .Or (a :: b :: rest) pos) (ev ce (.or ta tb)) := by
  intro e σ Hb H Q I h
  unfold ev at h
  refine tW_of (pe_or (pe_W X a) (pe_W X _)) ?_
  refine ha e σ Hb H _ I (CA.bind early_V h fun v1 e1 x1 Hb1 H1 p1 r1 h1 => ?_)
  obtain ⟨d, t, q1, q2, k⟩ := CA.op1 h1
  refine ⟨t, (r1.read p1.st q1).bool q2, ?_⟩
  cases t with
  | true => exact k _ _ _ (.refl p1.st) (blV_rv _)
  | false => exact hb e1 σ Hb1 H1 Q p1.st k
theorem se_one {op : BoolOp} {a : Expr} {ta : T} {pos : Pos} (ha : SE g X W a (ev ce ta)) : SE g X W (.BoolOp op [a] pos) (ev ce ta) := fun e σ Hb H Q I h => tW_of (pe_one (pe_W X a)) (ha e σ Hb H Q I h)
theorem se_not {a : Expr} {ta : T} {pos : Pos} (ha : SE g X W a (ev ce ta)) : SE g X W (.UnaryOp .Not a pos) (ev ce (.not ta)) := by
  intro e σ Hb H Q I h
  unfold ev at h
  refine tW_of (pe_not (pe_W X a)) ?_
  refine ha e σ Hb H _ I (CA.bind early_V h fun v1 e1 x1 Hb1 H1 p1 r1 h1 => ?_)
  obtain ⟨d, t, q1, q2, k⟩ := CA.op1 h1
  exact ⟨t, (r1.read p1.st q1).bool q2, k _ _ _ (.refl p1.st) (blV_rv _)⟩
theorem se_neg {a : Expr} {ta : T} {pos : Pos} (ha : SE g X W a (ev ce ta)) : SE g X W (.UnaryOp .USub a pos) (ev ce (.neg ta)) := by
  intro e σ Hb H Q I h
  unfold ev at h
  refine tW_of (pe_un un_neg (pe_W X a)) ?_
  refine ha e σ Hb H _ I (CA.bind early_V h fun v1 e1 x1 Hb1 H1 p1 r1 h1 => ?_)
  obtain ⟨d, v, q1, q2, k⟩ := CA.op1' h1
  have r := r1.read p1.st q1
  cases d <;> first | (cases q2; done) | skip
  cases q2
  exact ⟨_, r, k _ _ _ (.refl p1.st) rfl⟩
theorem se_ite {c a b : Expr} {tc ta tb : T} {pos : Pos} (hc : ST g X W c (evT ce tc)) (ha : SE g X W a (ev ce ta)) (hb : SE g X W b (ev ce tb)) : SE g X W (.IfExp c a b pos) (ev ce (.ite tc ta tb)) := by
  intro e σ Hb H Q I h
  unfold ev at h
  refine tW_of (pe_ifExp (pt_W X c) (pe_W X a) (pe_W X b)) ?_
  refine hc e σ Hb H _ I (CA.bind early_V h fun t e1 x1 Hb1 H1 p1 r1 h1 => ?_)
  subst r1
  cases x1 with
  | true => exact ha e1 σ Hb1 H1 Q p1.st h1
  | false => exact hb e1 σ Hb1 H1 Q p1.st h1

/-! ### tests -/
theorem st_and {a b : Expr} {rest : List Expr} {ta tb : T} {pos : Pos} (ha : ST g X W a (evT ce ta)) (hb : ∀ wh, ∀ e σ Hb H (Q : Bool → Hp → Prop), VS g Hb e σ H → CA PQ g W σ Hb H e (evT ce tb e) Q → ∀ pins s, Inv X pins σ H s → wpAny (model X.prog X.w) X.A (isTrue (.BoolOp .And (b :: rest) pos) X.env wh) (TP X pins σ Q) X.xe s) :
    ∀ wh, ∀ e σ Hb H (Q : Bool → Hp → Prop), VS g Hb e σ H → CA PQ g W σ Hb H e (evT ce (.and ta tb) e) Q → ∀ pins s, Inv X pins σ H s → wpAny (model X.prog X.w) X.A (isTrue (.BoolOp .And (a :: b :: rest) pos) X.env wh) (TP X pins σ Q) X.xe s := by
  intro wh e σ Hb H Q I h pins s J
  unfold evT at h
  refine (pw_and (tB' := fun σ H Q => ∀ wh pins s, Inv X pins σ H s → wpAny (model X.prog X.w) X.A (isTrue (.BoolOp .And (b :: rest) pos) X.env wh) (TP X pins σ Q) X.xe s) (pt_W X a) ⟨fun wh pins s σ H Q I h => h wh pins s I⟩).run wh pins s σ H Q J ?_
  refine ha e σ Hb H _ I (CA.bind early_Q h fun t e1 x1 Hb1 H1 p1 r1 h1 => ?_)
  subst r1
  cases x1 with
  | true => exact fun wh pins s J' => hb wh e1 σ Hb1 H1 Q p1.st h1 pins s J'
  | false => exact h1 _ _ _ (.refl p1.st) rfl
theorem st_or {a b : Expr} {rest : List Expr} {ta tb : T} {pos : Pos} (ha : ST g X W a (evT ce ta)) (hb : ∀ wh, ∀ e σ Hb H (Q : Bool → Hp → Prop), VS g Hb e σ H → CA PQ g W σ Hb H e (evT ce tb e) Q → ∀ pins s, Inv X pins σ H s → wpAny (model X.prog X.w) X.A (isTrue (.BoolOp .Or (b :: rest) pos) X.env wh) (TP X pins σ Q) X.xe s) :
    ∀ wh, ∀ e σ Hb H (Q : Bool → Hp → Prop), VS g Hb e σ H → CA PQ g W σ Hb H e (evT ce (.or ta tb) e) Q → ∀ pins s, Inv X pins σ H s → wpAny (model X.prog X.w) X.A (isTrue (.BoolOp .Or (a :: b :: rest) pos) X.env wh) (TP X pins σ Q) X.xe s := by
  intro wh e σ Hb H Q I h pins s J
  unfold evT at h
  refine (pw_or (tB' := fun σ H Q => ∀ wh pins s, Inv X pins σ H s → wpAny (model X.prog X.w) X.A (isTrue (.BoolOp .Or (b :: rest) pos) X.env wh) (TP X pins σ Q) X.xe s) (pt_W X a) ⟨fun wh pins s σ H Q I h => h wh pins s I⟩).run wh pins s σ H Q J ?_
  refine ha e σ Hb H _ I (CA.bind early_Q h fun t e1 x1 Hb1 H1 p1 r1 h1 => ?_)
  subst r1
  cases x1 with
  | false => exact fun wh pins s J' => hb wh e1 σ Hb1 H1 Q p1.st h1 pins s J'
  | true => exact h1 _ _ _ (.refl p1.st) rfl
theorem st_last {op : BoolOp} {a : Expr} {ta : T} {pos : Pos} (ha : ST g X W a (evT ce ta)) : ∀ wh, ∀ e σ Hb H (Q : Bool → Hp → Prop), VS g Hb e σ H → CA PQ g W σ Hb H e (evT ce ta e) Q → ∀ pins s, Inv X pins σ H s → wpAny (model X.prog X.w) X.A (isTrue (.BoolOp op [a] pos) X.env wh) (TP X pins σ Q) X.xe s := by
  intro wh e σ Hb H Q I h pins s J
  cases op with
  | And => exact (pw_and1 (pt_W X a)).run wh pins s σ H Q J (ha e σ Hb H Q I h)
  | Or => exact (pw_or1 (pt_W X a)).run wh pins s σ H Q J (ha e σ Hb H Q I h)
theorem st_not {a : Expr} {ta : T} {pos : Pos} (ha : ST g X W a (evT ce ta)) : ST g X W (.UnaryOp .Not a pos) (evT ce (.not ta)) := by
  intro e σ Hb H Q I h
  unfold evT at h
  refine tWT_of (pt_not (pt_W X a)) ?_
  refine ha e σ Hb H _ I (CA.bind early_Q h fun t e1 x1 Hb1 H1 p1 r1 h1 => ?_)
  subst r1
  exact h1 _ _ _ (.refl p1.st) rfl
theorem RR.tru {Hb H : Hp} {d : D} {x : V} {t : Bool} (hK : X.K = g.K) (e : Ex Hb H) (r : RR g Hb H d x) (h : tru d = some t) : TruV X.K x H t := by
  cases d with
  | non => cases h; cases r; rfl
  | bl b => cases h; cases r; rfl
  | int i => cases h; cases r; rfl
  | str l =>
    cases h
    have r' : x = .str (sT l) ∧ l.length ≤ sizeLine := r
    rw [r'.1]
    refine ⟨by rw [len_sT]; exact r'.2, ?_⟩
    rw [len_sT]
    cases l <;> rfl
  | tup l =>
    cases h
    obtain ⟨a, vs, rfl, h1, h2⟩ := r
    refine .inr (.inl ⟨vs, by rw [hK]; exact e.sqt h1, ?_⟩)
    have := h2.length
    cases l <;> cases vs <;> first | rfl | (cases this)
  | lst l =>
    cases h
    obtain ⟨a, vs, rfl, h1, h2⟩ := r
    refine .inl ⟨vs, by rw [hK]; exact h1, ?_⟩
    have := h2.length
    cases l <;> cases vs <;> first | rfl | (cases this)
  | dct l => cases h
  | ins c l => cases h
  | exc c l => cases h
  | th k => cases h
/-- an expression as a test, by its truth -/
theorem st_val {a : Expr} {ta : T} (G : Good g kk X W) (ha : SE g X W a (ev ce ta)) (he : ∀ whole, isTrue a X.env whole = (do let v ← whole; standAt a.pos; holding [v] (truthy v))) (ht : ∀ e, evT ce ta e = (ev ce ta e).bind fun x e => op1 tru x e) : ST g X W a (evT ce ta) := by
  intro e σ Hb H Q I h
  rw [ht] at h
  refine tWT_of (pt_truth (pe_W X a) he) ?_
  refine ha e σ Hb H _ I (CA.bind early_Q h fun v1 e1 x1 Hb1 H1 p1 r1 h1 => ?_)
  obtain ⟨d, t, q1, q2, k⟩ := CA.op1' h1
  exact ⟨t, RR.tru G.hK p1.st.ex (r1.read p1.st q1) q2, k _ _ _ (.refl p1.st) rfl⟩
/-- one comparison as a test -/
theorem evT_cmp (o : Cq) (ta tb : T) (e : VE) : evT ce (.cmp o ta tb) e = (ev ce ta e).bind fun x e => (ev ce tb e).bind fun y e => op2 (cop o) x y e := by
  simp only [evT]
  rw [ev]
  cases ev ce ta e with
  | ok v1 e1 =>
    dsimp only [R.bind]
    cases ev ce tb e1 with
    | ok v2 e2 =>
      dsimp only [R.bind]
      cases op2 (cop o) v1 v2 e2 <;> rfl
    | rz x e' => rfl
    | no => rfl
  | rz x e' => rfl
  | no => rfl
theorem st_cmp {o : Cq} {a b : Expr} {ta tb : T} {pos : Pos} (G : Good g kk X W) (hm : behindInMarks (cq o) b = false) (ha : SE g X W a (ev ce ta)) (hb : SE g X W b (ev ce tb)) : ST g X W (.Compare a [cq o] [b] pos) (evT ce (.cmp o ta tb)) := by
  intro e σ Hb H Q I h
  rw [evT_cmp] at h
  refine tWT_of (pt_cmpR (op_W X _) (pe_W X a) (pe_W X b) hm) ?_
  refine ha e σ Hb H _ I (CA.bind early_Q h fun v1 e1 x1 Hb1 H1 p1 r1 h1 => ?_)
  refine hb e1 σ Hb1 H1 _ p1.st (CA.bind early_Q h1 fun v2 e2 x2 Hb2 H2 p2 r2 h2 => ?_)
  obtain ⟨d1, d2, v, q1, q2, q3, k⟩ := CA.op2' h2
  have r1' := r1.step p2
  refine cop_ok G.hK G.hu q3 e2 σ Hb2 H2 x1 x2 _ p2.st (r1'.read p2.st q1) (r2.read p2.st q2) fun z Hb3 H3 p3 r3 => ?_
  exact ⟨v, r3, k _ _ _ p3 rfl⟩
theorem evT_chn (o o' : Cq) (ta tb tc : T) (e : VE) : evT ce (.chn o o' ta tb tc) e = (ev ce ta e).bind fun x e => (ev ce tb e).bind fun y e => (op2 (cop o) x y e).bind fun t e =>
      if t = true then (ev ce tc e).bind fun z e => op2 (cop o') y z e else .ok false e := by
  simp only [evT]
  rw [ev]
  cases ev ce ta e with
  | ok v1 e1 =>
    dsimp only [R.bind]
    cases ev ce tb e1 with
    | ok v2 e2 =>
      dsimp only [R.bind]
      cases op2 (cop o) v1 v2 e2 with
      | ok t e3 =>
        cases t with
        | false => rfl
        | true =>
          dsimp only [R.bind]
          rw [if_pos rfl, if_pos rfl]
          cases ev ce tc e3 with
          | ok v3 e4 =>
            dsimp only [R.bind]
            cases op2 (cop o') v2 v3 e4 <;> rfl
          | rz x e' => rfl
          | no => rfl
      | rz x e' => rfl
      | no => rfl
    | rz x e' => rfl
    | no => rfl
  | rz x e' => rfl
  | no => rfl
theorem st_chn {o o' : Cq} {a b c : Expr} {ta tb tc : T} {pos : Pos} (G : Good g kk X W) (hm : lastMarks [cq o, cq o'] [b, c] = false) (ha : SE g X W a (ev ce ta)) (hb : SE g X W b (ev ce tb)) (hc : SE g X W c (ev ce tc)) :
    ST g X W (.Compare a [cq o, cq o'] [b, c] pos) (evT ce (.chn o o' ta tb tc)) := by
  intro e σ Hb H Q I h
  rw [evT_chn] at h
  refine tWT_of (pt_chain (op_W X _) (op_W X _) (pe_W X a) (pe_W X b) (pe_W X c) hm) ?_
  refine ha e σ Hb H _ I (CA.bind early_Q h fun v1 e1 x1 Hb1 H1 p1 r1 h1 => ?_)
  refine hb e1 σ Hb1 H1 _ p1.st (CA.bind early_Q h1 fun v2 e2 x2 Hb2 H2 p2 r2 h2 => ?_)
  obtain ⟨d1, d2, t, q1, q2, q3, k⟩ := CA.op2 h2
  have r1' := r1.step p2
  refine cop_ok G.hK G.hu q3 e2 σ Hb2 H2 x1 x2 _ p2.st (r1'.read p2.st q1) (r2.read p2.st q2) fun z Hb3 H3 p3 r3 => ?_
  have r3' : z = .bl t := r3
  refine ⟨t, r3', ?_⟩
  have k3 := CA.shift early_Q p3 k
  cases t with
  | false =>
    rw [if_neg (by decide)] at k3 ⊢
    exact ⟨false, rfl, k3 _ _ _ (.refl p3.st) rfl⟩
  | true =>
    rw [if_pos rfl] at k3 ⊢
    refine hc e2 σ Hb3 H3 _ p3.st (CA.bind early_Q k3 fun v4 e4 x4 Hb4 H4 p4 r4 h4 => ?_)
    obtain ⟨d3, d4, t', q4, q5, q6, k'⟩ := CA.op2' h4
    have r2' := (r2.step p3).step p4
    exact cop_ok G.hK G.hu q6 e4 σ Hb4 H4 x2 x4 _ p4.st (r2'.read p4.st q4) (r4.read p4.st q5) fun z Hb5 H5 p5 r5 => ⟨t', r5, k' _ _ _ p5 rfl⟩

/-! ### rows of expressions; displays -/
theorem sa_nil : SA g X W [] (evs ce []) := by
  intro e σ Hb H Q I h
  refine tWA_of pa_nil ?_
  unfold evs at h
  exact h [] Hb H (.refl I) rfl
theorem RVs.get {H0 Hb H : Hp} {e : VE} {σ : L2.St} : ∀ {vs : List Val} {xs : List V} {j : Nat} {v : Val}, RVs g H0 Hb H e σ vs xs → vs[j]? = some v → ∃ x, xs[j]? = some x ∧ RV g H0 Hb H e σ v x
  | [], _, _, _, _, q => by simp at q
  | w :: l, _, 0, v, h, q => by
    obtain ⟨x, r, rfl, h1, h2, h3⟩ := h
    simp at q; subst q
    exact ⟨x, rfl, h1⟩
  | w :: l, _, j + 1, v, h, q => by
    obtain ⟨x, r, rfl, h1, h2, h3⟩ := h
    obtain ⟨y, e1, e2⟩ := RVs.get (j := j) h2 (by simpa using q)
    exact ⟨y, by simpa using e1, e2⟩
theorem RVs.cons {H0 Hb1 H1 Hb2 H2 : Hp} {e1 e2 : VE} {σ : L2.St} {v : Val} {x : V} {vs : List Val} {xs : List V} (r1 : RV g H0 Hb1 H1 e1 σ v x) (p2 : PK g σ Hb1 H1 e1 Hb2 H2 e2) (t : ∀ a, H1 a = none → H0 a = none) (r2 : RVs g H1 Hb2 H2 e2 σ vs xs) : RVs g H0 Hb2 H2 e2 σ (v :: vs) (x :: xs) := by
  refine ⟨x, xs, rfl, r1.step p2, r2.early t, fun c hc j c' q z => ?_⟩
  subst hc
  obtain ⟨a, rfl, _, _, ro, _⟩ := r1
  obtain ⟨y, e3, r3⟩ := r2.get q
  rw [z] at e3
  cases e3
  obtain ⟨b, eb, h0, _⟩ := r3
  cases eb
  obtain ⟨o, ho, _⟩ := ro.there
  rw [ho] at h0; cases h0
theorem sa_cons {a : Expr} {es : List Expr} {ta : T} {ts : List T} (ha : SE g X W a (ev ce ta)) (hr : SA g X W es (evs ce ts)) (hs : starEach (a :: es) X.env = (false, eval a X.env) :: starEach es X.env) : SA g X W (a :: es) (evs ce (ta :: ts)) := by
  intro e σ Hb H Q I h
  refine tWA_of (pa_cons (pe_W X a) (pa_W X es) hs) ?_
  rw [evs] at h
  refine ha e σ Hb H _ I ?_
  cases q1 : ev ce ta e with
  | ok v1 e1 =>
    rw [q1] at h
    intro x1 Hb1 H1 p1 r1
    refine hr e1 σ Hb1 H1 _ p1.st ?_
    dsimp only [R.bind] at h
    cases q2 : evs ce ts e1 with
    | ok v2 e2 =>
      rw [q2] at h
      intro x2 Hb2 H2 p2 r2
      exact h (x1 :: x2) Hb2 H2 (p1.trans p2) (RVs.cons r1 p2 p1.vp.t r2)
    | rz xd e2 =>
      rw [q2] at h
      exact fun cls d Hb' H' p2 rx => h cls d Hb' H' (p1.trans p2) rx
    | no => rw [q2] at h; exact h
  | rz xd e1 => rw [q1] at h; exact h
  | no => rw [q1] at h; exact h
/-- a row, then all of it kept -/
theorem keep_all {es : List Expr} {ts : List T} {γ δ : Type} {Pb : Hp → Hp → Hp → VE → γ → δ → Prop} {f : List D → VE → R γ} {lim : List D × VE → Option (List D × VE)} (hlim : ∀ p q, lim p = some q → q = p) (hP : Early Pb) (ha : SA g X W es (evs ce ts)) {e : VE} {σ : L2.St} {Hb H : Hp} {Q : δ → Hp → Prop} {Q' : List V → Hp → Prop} (I : VS g Hb e σ H)
    (h : CA Pb g W σ Hb H e ((evs ce ts e).bind fun vs e => (ofP ((fzs vs e).bind lim)).bind f) Q)
    (k : ∀ ds e1 xs Hb1 H1, PK g σ Hb H e Hb1 H1 e1 → Rps g Hb1 ds xs → lim (ds, e1) = some (ds, e1) → CA Pb g W σ Hb1 H1 e1 (f ds e1) Q → Q' xs H1) : tWA X es σ H Q' := by
  refine ha e σ Hb H _ I ?_
  cases q1 : evs ce ts e with
  | ok vs e1 =>
    rw [q1] at h
    intro xs Hb1 H1 p1 r1
    dsimp only [R.bind] at h
    cases q2 : fzs vs e1 with
    | none => rw [q2] at h; exact h.elim
    | some y =>
      obtain ⟨ds, e2⟩ := y
      rw [q2] at h
      cases q3 : lim (ds, e2) with
      | none => rw [show (some (ds, e2)).bind lim = lim (ds, e2) from rfl, q3] at h; exact h.elim
      | some y =>
        have q4 := hlim _ _ q3
        subst q4
        rw [show (some (ds, e2)).bind lim = lim (ds, e2) from rfl, q3] at h
        obtain ⟨Hb2, p2, b2, k2⟩ := RVs.keep p1 r1
        obtain ⟨Hb3, p3, b3, s3⟩ := fzs_ok p2 k2 q2
        exact k ds e2 xs Hb3 H1 p3 s3 q3 (CA.shift hP p3 h)
  | rz xd e1 => rw [q1] at h; exact h
  | no => rw [q1] at h; exact h
theorem short_eq (p q : List D × VE) (h : short p = some q) : q = p := by
  unfold short at h
  split at h
  · exact (Option.some.inj h).symm
  · cases h
theorem short_le {p q : List D × VE} (h : short p = some q) : p.1.length ≤ sizeLine := by
  unfold short at h
  split at h
  · rw [← line_eq]; assumption
  · cases h
theorem se_tup {es : List Expr} {ts : List T} {k : Nat} {pos : Pos} (ha : SA g X W es (evs ce ts)) : SE g X W (.Tuple es k pos) (ev ce (.tup ts)) := by
  intro e σ Hb H Q I h
  rw [ev] at h
  refine tW_of (pe_tup (pa_W X es)) ?_
  refine keep_all short_eq early_V ha I h fun ds e1 xs Hb1 H1 p1 r1 hz h1 => ?_
  refine ⟨by rw [r1.length]; exact short_le hz, fun n hn => ?_⟩
  have hb := p1.st.ex.back hn
  exact h1 _ _ _ (.new p1.st hn) ⟨n, _, rfl, .of upd_same, Rps.mono (.new hb) _ _ r1⟩
theorem se_lst {es : List Expr} {ts : List T} {pos : Pos} (ha : SA g X W es (evs ce ts)) : SE g X W (.List es pos) (ev ce (.lst ts)) := by
  intro e σ Hb H Q I h
  rw [ev] at h
  refine tW_of (pe_lst (pa_W X es)) ?_
  refine keep_all short_eq early_V ha I h fun ds e1 xs Hb1 H1 p1 r1 hz h1 => ?_
  refine ⟨by rw [r1.length]; exact short_le hz, fun n hn => ?_⟩
  exact h1 _ _ _ (.temp p1.st hn) (RV.temp p1.st hn ⟨_, upd_same, r1⟩)
/-- a value, as data -/
theorem se_frz {a : Expr} {ta : T} (ha : SE g X W a (ev ce ta)) : SE g X W a (ev ce (.frz ta)) := by
  intro e σ Hb H Q I h
  rw [ev] at h
  refine ha e σ Hb H _ I ?_
  cases q : ev ce ta e with
  | no => rw [q] at h; exact h
  | rz xd e1 => rw [q] at h; exact h
  | ok v e1 =>
    rw [q] at h
    intro x Hb1 H1 p1 r1
    have h1 : CA (PV g σ) g W σ Hb H e ((ofP (fz e1 v)).bind fun d e => .ok (.p d) e) Q := h
    cases q2 : fz e1 v with
    | none => rw [q2] at h1; exact h1.elim
    | some pr =>
      obtain ⟨d, e2⟩ := pr
      rw [q2] at h1
      obtain ⟨Hb2, p2, b2, k2⟩ := RVs.keep (vs := [v]) (xs := [x]) p1 ⟨x, [], rfl, r1, rfl, fun _ _ j c' z => by simp at z⟩
      obtain ⟨y, r, ey, k3, er⟩ := k2
      cases er; cases ey
      obtain ⟨Hb3, p3, b3, _, s3⟩ := fz_ok p2 k3 q2
      exact h1 x Hb3 H1 p3 s3
end
end Vd
/-! Vd6: calls of built-ins, subscripts, slices. -/
namespace Vd
open PySem PySem.Spec PyProof.Rows L2

section
variable {g : Gx} {kk : Nat} {X : Cx} {W : WX} {ce : CE} {σ : L2.St} {H0 Hb H : Hp} {e : VE}
def RRs (g : Gx) (Hb H : Hp) : List D → List V → Prop
  | [], xs => xs = []
  | d :: l, xs => ∃ x r, xs = x :: r ∧ RR g Hb H d x ∧ RRs g Hb H l r
theorem RVs.reads (I : VS g Hb e σ H) : ∀ {vs : List Val} {xs : List V} {ds : List D}, RVs g H0 Hb H e σ vs xs → rds e vs = some ds → RRs g Hb H ds xs
  | [], _, _, h, k => by cases k; exact h
  | v :: l, _, _, h, k => by
    obtain ⟨x, r, rfl, h1, h2, _⟩ := h
    unfold rds at k
    cases q : rd e v with
    | none => rw [q] at k; cases k
    | some d =>
      rw [q] at k
      dsimp only [Option.bind] at k
      cases q2 : rds e l with
      | none => rw [q2] at k; cases k
      | some ds =>
        rw [q2] at k
        cases k
        exact ⟨x, r, rfl, h1.read I q, RVs.reads I h2 q2⟩
def cW (X : Cx) (f : Value) : List V → Hp → VK → Prop := fun xs H Q => ∀ pins s σ us, Inv X pins σ H s → Vals xs us → wpAny (model X.prog X.w) X.A (call f us) (EP X pins σ Q) X.xe s
theorem call_W (X : Cx) (f : Value) : CallR X f (cW X f) := fun pins s σ H xs us Q I r h => h pins s σ us I r
theorem cW_of {f : Value} {r : List V → Hp → VK → Prop} (h : CallR X f r) {xs : List V} {H : Hp} {Q : VK} (q : r xs H Q) : cW X f xs H Q := fun pins s σ us I rv => h pins s σ H xs us Q I rv q
def bval : B1 → Value
  | .len => .builtin "len"
  | .int => .type "int"
  | .str => .type "str"
  | .bool => .type "bool"
  | .tuple => .type "tuple"
  | .list => .type "list"
  | .all => .builtin "all"
  | .any => .builtin "any"
  | .sum => .builtin "sum"
  | .ord => .builtin "ord"
  | .chr => .builtin "chr"
  | .repr => .builtin "repr"
  | .setlen => .none
  | .max => .builtin "max"
  | .min => .builtin "min"
  | .abs => .builtin "abs"
  | .lrg => .none
  | .reprd => .none
  | .dget => .none
/-- a function of data is sound -/
def FOk (g : Gx) (X : Cx) (f : Value) (ds : List D) (v : Val) : Prop :=
  ∀ e σ Hb H xs (Q : VK), VS g Hb e σ H → RRs g Hb H ds xs → (∀ z Hb' H', PK g σ Hb H e Hb' H' e → RV g H Hb' H' e σ v z → Q z H') → cW X f xs H Q
theorem bls_of {Hb : Hp} : ∀ {l : List D} {vs : List V} {b : Bool}, Rps g Hb l vs → allB l = some b → ∃ bs : List Bool, vs = bs.map V.bl ∧ b = bs.all id
  | [], _, _, h, k => by cases k; cases h; exact ⟨[], rfl, rfl⟩
  | d :: l, _, b, h, k => by
    obtain ⟨v, r, rfl, h1, h2⟩ := h
    cases d <;> first | (cases k; done) | skip
    rename_i c
    simp only [allB] at k
    cases q : allB l with
    | none => rw [q] at k; cases k
    | some b' =>
      rw [q] at k
      cases k
      obtain ⟨bs, rfl, rfl⟩ := bls_of h2 q
      cases h1
      exact ⟨c :: bs, rfl, rfl⟩
theorem bls_of' {Hb : Hp} : ∀ {l : List D} {vs : List V} {b : Bool}, Rps g Hb l vs → anyB l = some b → ∃ bs : List Bool, vs = bs.map V.bl ∧ b = bs.any id
  | [], _, _, h, k => by cases k; cases h; exact ⟨[], rfl, rfl⟩
  | d :: l, _, b, h, k => by
    obtain ⟨v, r, rfl, h1, h2⟩ := h
    cases d <;> first | (cases k; done) | skip
    rename_i c
    simp only [anyB] at k
    cases q : anyB l with
    | none => rw [q] at k; cases k
    | some b' =>
      rw [q] at k
      cases k
      obtain ⟨bs, rfl, rfl⟩ := bls_of' h2 q
      cases h1
      exact ⟨c :: bs, rfl, rfl⟩
theorem ints_of {Hb : Hp} : ∀ {l : List D} {vs : List V} {ns : List Int}, Rps g Hb l vs → intsD l = some ns → vs = ns.map V.int
  | [], _, _, h, k => by cases k; cases h; rfl
  | d :: l, _, b, h, k => by
    obtain ⟨v, r, rfl, h1, h2⟩ := h
    cases d <;> first | (cases k; done) | skip
    rename_i c
    simp only [intsD] at k
    cases q : intsD l with
    | none => rw [q] at k; cases k
    | some b' =>
      rw [q] at k
      cases k
      rw [ints_of h2 q]
      cases h1
      rfl
theorem RRs.one {d : D} {xs : List V} (h : RRs g Hb H [d] xs) : ∃ x, xs = [x] ∧ RR g Hb H d x := by
  obtain ⟨x, r, rfl, h1, h2⟩ := h
  cases h2
  exact ⟨x, rfl, h1⟩
theorem RRs.two {d d' : D} {xs : List V} (h : RRs g Hb H [d, d'] xs) : ∃ x y, xs = [x, y] ∧ RR g Hb H d x ∧ RR g Hb H d' y := by
  obtain ⟨x, r, rfl, h1, h2⟩ := h
  obtain ⟨y, rfl, h3⟩ := h2.one
  exact ⟨x, y, rfl, h1, h3⟩
theorem call_str_int : CallR X (.type "str") (fun xs H Q => ∃ i, xs = [.int i] ∧ i.natAbs.log2 < 1920 ∧ Q (.str (toString i)) H) := by
  intro pins s σ H xs us Q I r h
  obtain ⟨i, rfl, hz, q⟩ := h
  obtain ⟨u, rfl, t, rfl⟩ := vals1 r
  exact PySem.P.str_of_int hz ⟨.str _, H, I.tok _, ⟨_, rfl⟩, q⟩
theorem minI_ok : ∀ {ns : List Int} {m : Int}, minI ns = some m → m ∈ ns ∧ ∀ y ∈ ns, m ≤ y
  | [], _, h => by cases h
  | i :: l, m, h => by
    unfold minI at h
    cases q : minI l with
    | none =>
      rw [q] at h; cases h
      cases l with
      | nil => exact ⟨List.mem_cons_self, fun y hy => by rw [List.mem_singleton] at hy; omega⟩
      | cons j l =>
        unfold minI at q
        cases q2 : minI l with
        | none => rw [q2] at q; cases q
        | some w => rw [q2] at q; cases q
    | some w =>
      rw [q] at h; cases h
      obtain ⟨h1, h2⟩ := minI_ok q
      by_cases c : w < i
      · rw [if_pos c]
        exact ⟨List.mem_cons_of_mem _ h1, fun y hy => (List.mem_cons.mp hy).elim (fun e => by omega) (h2 y)⟩
      · rw [if_neg c]
        exact ⟨List.mem_cons_self, fun y hy => (List.mem_cons.mp hy).elim (fun e => by omega) (fun e => by have := h2 y e; omega)⟩
theorem log_small {i : Int} (h : i.natAbs < 2 ^ 64) : i.natAbs.log2 < 1920 := by
  by_cases h0 : i.natAbs = 0
  · rw [h0]; decide
  · exact Nat.lt_trans ((Nat.log2_lt h0).mpr h) (by decide)
theorem strV_rp {Hb : Hp} {s : Str} {d : D} (h : strV s = some d) : Rp g Hb d (.str s) := by
  unfold strV at h
  split at h
  · rename_i hz
    cases h
    refine ⟨?_, ?_⟩
    · show V.str s = V.str (sT (oS s))
      congr 1
    · show (oS s).length ≤ sizeLine
      rw [← line_eq]
      have hz' : s.cps.size ≤ line := hz
      unfold oS
      simpa using hz'
  · cases h
theorem bfn_ok (G : Good g kk X W) (hk : 0 < kk) {b : B1} {ds : List D} {v : Val} (hb : b ≠ .setlen ∧ b ≠ .lrg ∧ b ≠ .dget ∧ b ≠ .reprd) (h : bfn b ds = some v) : FOk g X (bval b) ds v := by
  unfold bfn at h
  split at h
  · rename_i d
    intro e σ Hb H xs Q I rs q
    obtain ⟨x, rfl, r⟩ := rs.one
    cases hn : lenD d with
    | none => rw [hn] at h; cases h
    | some n =>
      rw [hn] at h
      cases h
      refine cW_of call_len ⟨x, n, rfl, ?_, q _ _ _ (.refl I) rfl⟩
      cases d <;> first | (cases hn; done) | skip
      · cases hn
        have r' : x = .str (sT _) ∧ _ := r
        obtain ⟨rfl, r2⟩ := r'
        exact ⟨by rw [len_sT]; exact r2, by rw [len_sT]⟩
      · cases hn
        obtain ⟨a, vs, rfl, h1, h2⟩ := r
        exact .inr ⟨vs, by rw [G.hK]; exact I.ex.sqt h1, h2.length.symm⟩
      · cases hn
        obtain ⟨a, vs, rfl, h1, h2⟩ := r
        exact .inl ⟨vs, by rw [G.hK]; exact h1, h2.length.symm⟩
  · cases h
    intro e σ Hb H xs Q I rs q
    obtain ⟨x, rfl, r⟩ := rs.one
    cases r
    exact cW_of call_int1 (.inl ⟨_, rfl, q _ _ _ (.refl I) rfl⟩)
  · cases h
    intro e σ Hb H xs Q I rs q
    obtain ⟨x, rfl, r⟩ := rs.one
    cases r
    exact cW_of call_int1 (.inr ⟨_, rfl, q _ _ _ (.refl I) rfl⟩)
  · cases h
    intro e σ Hb H xs Q I rs q
    obtain ⟨x, rfl, r⟩ := rs.one
    obtain ⟨a, vs, rfl, h1, h2⟩ := r
    refine cW_of call_tuple_of ⟨a, vs, rfl, .inl ⟨by rw [G.hK]; exact h1, fun n hn => ?_⟩⟩
    have hb := I.ex.back hn
    exact q _ _ _ (.new I hn) ⟨n, _, rfl, .of upd_same, Rps.mono (.new hb) _ _ h2⟩
  · cases h
    intro e σ Hb H xs Q I rs q
    obtain ⟨x, rfl, r⟩ := rs.one
    obtain ⟨a, vs, rfl, h1, h2⟩ := id r
    exact cW_of call_tuple_of ⟨a, vs, rfl, .inr ⟨by rw [G.hK]; exact I.ex.sqt h1, q _ _ _ (.refl I) r⟩⟩
  · cases h
    intro e σ Hb H xs Q I rs q
    obtain ⟨x, rfl, r⟩ := rs.one
    obtain ⟨a, vs, rfl, h1, h2⟩ := r
    exact cW_of call_list_of ⟨a, vs, rfl, .inl (by rw [G.hK]; exact h1), fun n hn => q _ _ _ (.temp I hn) (RV.temp I hn ⟨_, upd_same, h2⟩)⟩
  · cases h
    intro e σ Hb H xs Q I rs q
    obtain ⟨x, rfl, r⟩ := rs.one
    obtain ⟨a, vs, rfl, h1, h2⟩ := r
    exact cW_of call_list_of ⟨a, vs, rfl, .inr (by rw [G.hK]; exact I.ex.sqt h1), fun n hn => q _ _ _ (.temp I hn) (RV.temp I hn ⟨_, upd_same, h2⟩)⟩
  · rename_i l
    intro e σ Hb H xs Q I rs q
    obtain ⟨x, rfl, r⟩ := rs.one
    obtain ⟨a, vs, rfl, h1, h2⟩ := r
    cases hn : allB l with
    | none => rw [hn] at h; cases h
    | some b =>
      rw [hn] at h
      cases h
      obtain ⟨bs, rfl, rfl⟩ := bls_of h2 hn
      exact cW_of (cr_all (G.calm hk)) ⟨a, bs, rfl, by rw [G.hK]; exact h1, q _ _ _ (.refl I) rfl⟩
  · rename_i l
    intro e σ Hb H xs Q I rs q
    obtain ⟨x, rfl, r⟩ := rs.one
    obtain ⟨a, vs, rfl, h1, h2⟩ := r
    cases hn : anyB l with
    | none => rw [hn] at h; cases h
    | some b =>
      rw [hn] at h
      cases h
      obtain ⟨bs, rfl, rfl⟩ := bls_of' h2 hn
      exact cW_of (cr_any (G.calm hk)) ⟨a, bs, rfl, by rw [G.hK]; exact h1, q _ _ _ (.refl I) rfl⟩
  · rename_i l
    intro e σ Hb H xs Q I rs q
    obtain ⟨x, rfl, r⟩ := rs.one
    obtain ⟨a, vs, rfl, h1, h2⟩ := r
    cases hn : intsD l with
    | none => rw [hn] at h; cases h
    | some ns =>
      rw [hn] at h
      cases h
      have := ints_of h2 hn
      subst this
      exact cW_of (cr_sum (G.calm hk)) ⟨a, ns, rfl, by rw [G.hK]; exact h1, q _ _ _ (.refl I) rfl⟩
  · cases h
    intro e σ Hb H xs Q I rs q
    obtain ⟨x, rfl, r⟩ := rs.one
    cases r.1
    exact cW_of call_ord ⟨_, rfl, rfl, q _ _ _ (.refl I) rfl⟩
  · exact absurd rfl hb.1
  · rename_i i
    split at h
    · rename_i hi
      cases hs : strV (Str.ofString (toString i)) with
      | none => rw [hs] at h; cases h
      | some d =>
        rw [hs] at h
        cases h
        intro e σ Hb H xs Q I rs q
        obtain ⟨x, rfl, r⟩ := rs.one
        cases r
        exact cW_of call_str_int ⟨_, rfl, log_small hi, q _ _ _ (.refl I) (strV_rp hs)⟩
    · cases h
  · cases h
    intro e σ Hb H xs Q I rs q
    obtain ⟨x, rfl, r⟩ := rs.one
    have r' : x = .str (sT _) ∧ _ := r
    obtain ⟨rfl, r2⟩ := r'
    exact cW_of SkE.call_str_str ⟨_, rfl, q _ _ _ (.refl I) ⟨rfl, r2⟩⟩
  · rename_i i
    split at h
    · rename_i hi
      cases hs : strV (Str.ofString (toString i)) with
      | none => rw [hs] at h; cases h
      | some d =>
        rw [hs] at h
        cases h
        intro e σ Hb H xs Q I rs q
        obtain ⟨x, rfl, r⟩ := rs.one
        cases r
        exact cW_of SkE.call_repr_int ⟨_, rfl, log_small hi, q _ _ _ (.refl I) (strV_rp hs)⟩
    · cases h
  · cases h
    intro e σ Hb H xs Q I rs q
    obtain ⟨x, rfl, r⟩ := rs.one
    cases r
    exact cW_of call_repr_none ⟨rfl, q _ _ _ (.refl I) ⟨rfl, by rw [← line_eq]; decide⟩⟩
  · cases h
    intro e σ Hb H xs Q I rs q
    obtain ⟨x, y, rfl, r, r'⟩ := rs.two
    cases r
    cases r'
    exact cW_of (call_min2 (G.calm hk)) ⟨_, _, rfl, q _ _ _ (.refl I) rfl⟩
  · cases h
    intro e σ Hb H xs Q I rs q
    obtain ⟨x, y, rfl, r, r'⟩ := rs.two
    cases r
    cases r'
    exact cW_of (call_max2 (G.calm hk)) ⟨_, _, rfl, q _ _ _ (.refl I) rfl⟩
  · rename_i l
    intro e σ Hb H xs Q I rs q
    obtain ⟨x, rfl, r⟩ := rs.one
    obtain ⟨a, vs, rfl, h1, h2⟩ := r
    cases hn : intsD l with
    | none => rw [hn] at h; cases h
    | some ns =>
      rw [hn] at h
      dsimp only [Option.bind] at h
      cases hm : minI ns with
      | none => rw [hm] at h; cases h
      | some m0 =>
        rw [hm] at h
        cases h
        have := ints_of h2 hn
        subst this
        obtain ⟨z1, z2⟩ := minI_ok hm
        refine cW_of (cr_min (G.calm hk)) ⟨a, ns, rfl, by rw [G.hK]; exact h1, List.length_pos_of_mem z1, fun m w1 w2 => ?_⟩
        have : m = m0 := Int.le_antisymm (w2 _ z1) (z2 _ w1)
        subst this
        exact q _ _ _ (.refl I) rfl
  · exact absurd rfl hb.2.1
  · exact absurd rfl hb.2.2.2
  · exact absurd rfl hb.2.2.1
  · cases h

/-! ### the name of a built-in, called -/
def noStar : Expr → Bool
  | .Starred _ _ => false
  | _ => true
theorem star1 {a : Expr} (h : noStar a = true) (es : List Expr) (env : Env) : starEach (a :: es) env = (false, eval a env) :: starEach es env := by
  cases a <;> first | rfl | (cases h; done)
theorem plain_es {env : Env} {pos : Pos} : ∀ {es : List Expr}, es.all noStar = true → (backTo pos (starEach es env)).any (·.1) = false
  | [], _ => rfl
  | a :: l, h => by
    rw [List.all_cons, Bool.and_eq_true] at h
    rw [star1 h.1]
    have ih := plain_es (env := env) (pos := pos) h.2
    unfold backTo at ih ⊢
    rw [List.map_cons, List.any_cons, ih]
    rfl
end
end Vd
/-! Vd7: built-ins called by name, isinstance, subscripts, slices, displays of dicts, methods of lists: sound. -/
namespace Vd
open PySem PySem.Spec PyProof.Rows L2

section
variable {g : Gx} {kk : Nat} {X : Cx} {W : WX} {ce : CE}
/-- arguments, read, then a function of data -/
theorem sa_fun {es : List Expr} {ts : List T} {f : Value} {fn : List D → Option Val} (ha : SA g X W es (evs ce ts)) (hf : ∀ ds v, fn ds = some v → FOk g X f ds v) {e : VE} {σ : L2.St} {Hb H : Hp} {Q : VK} (I : VS g Hb e σ H)
    (h : CA (PV g σ) g W σ Hb H e ((evs ce ts e).bind fun vs e => ofO ((rds e vs).bind fn) e) Q) : tCB (cW X f) (tWA X es) σ H Q := by
  refine ha e σ Hb H _ I (CA.bind early_V h fun vs e1 xs Hb1 H1 p1 r1 h1 => ?_)
  obtain ⟨v, q, k⟩ := CA.ofO' h1
  cases q2 : rds e1 vs with
  | none => rw [q2] at q; cases q
  | some ds =>
    rw [q2] at q
    exact hf ds v q e1 σ Hb1 H1 xs Q p1.st (r1.reads p1.st q2) k
theorem se_bi {b : B1} {a : Expr} {es : List Expr} {ts : List T} {x : Str} {p pos : Pos} (G : Good g kk X W) (hk : 0 < kk) (hb : b ≠ .setlen ∧ b ≠ .lrg ∧ b ≠ .dget ∧ b ≠ .reprd) (hg : Gl X x) (hm : X.mg x = none) (hv : bootBuiltins x = some (bval b)) (hn : x ≠ "__name__") (hdb : (x == ("__debug__" : Str)) = false)
    (hs : (a :: es).all noStar = true) (ha : SA g X W (a :: es) (evs ce ts)) : SE g X W (.Call (.Name x p) (a :: es) [] pos) (ev ce (.bi b ts)) := by
  intro e σ Hb H Q I h
  rw [ev] at h
  rw [List.all_cons, Bool.and_eq_true] at hs
  have key := sa_fun (f := bval b) ha (fun ds v q => bfn_ok G hk hb q) I h
  have h1 := star1 hs.1 es X.env
  have h2 := plain_es (env := X.env) (pos := pos) hs.2
  cases b <;> first
    | exact tW_of (pe_callB (call_W X _) hg hm hv (pa_W X _) hn hdb h1 h2) key
    | exact tW_of (pe_callTy (call_W X _) hg hm hv (pa_W X _) hn hdb h1 h2) key
    | exact absurd rfl hb.1
    | exact absurd rfl hb.2.1
    | exact absurd rfl hb.2.2.1
    | exact absurd rfl hb.2.2.2

/-! ### len(set(a)) -/
theorem ded_met (ns : List Int) : firstMet (fun i => ns.getD i 0) ns.length = dedI ns := by
  have e : (List.range ns.length).map (fun i => ns.getD i 0) = ns := by
    apply List.ext_getElem
    · simp
    · intro i h1 h2
      simp [List.getD_eq_getElem?_getD, List.getElem?_eq_getElem h2]
  show ((List.range ns.length).map (fun i => ns.getD i 0)).foldl step_dedup [] = dedI ns
  rw [e]
  rfl
theorem ints_vals : ∀ {ns : List Int} {us : List Value}, Vals (ns.map V.int) us → IntsAre us ns
  | [], _, .nil => .nil
  | n :: ns, _, .cons r t => by
    obtain ⟨k, rfl⟩ := r
    exact .cons n k (ints_vals t)
theorem len_ded (ns : List Int) : (dedI ns).length ≤ ns.length := by
  rw [← ded_met]
  exact firstMet_length_le _ _
def tLs (K : PySem.W.Frag) (ta : TE) : TE := fun σ H Q => ta σ H fun x H1 => ∃ (l : Addr) (ns : List Int), x = .ref l ∧ SqL K H1 l (ns.map V.int) ∧ ns.length ≤ 4000 ∧ Q (.int ((dedI ns).length : Nat)) H1
theorem pe_ls {a : Expr} {ta : TE} {p p2 q pos : Pos} (hg : Gl X "len") (hm : X.mg "len" = none) (hg2 : Gl X "set") (hm2 : X.mg "set" = none) (ha : PE X a ta) (hc : X.calm = true) (hs : noStar a = true) : PE X (.Call (.Name "len" p) [.Call (.Name "set" p2) [a] [] q] [] pos) (tLs X.K ta) := by
  have na := star1 hs [] X.env
  refine ⟨fun pins s σ H Q I h => Call_ (ld_blt I hg hm boot_len (callWith_builtin1 (args_cons ?_ rfl) rfl rfl))⟩
  refine Call_ (ld_blt I hg2 hm2 PyProof.Rows.boot_set ?_)
  refine callWith_type1 (args_cons (thn (ha.run pins s σ H _ I h) fun v s1 ⟨x, H1, I1, r1, l, ns, ex, hq, hl, q1⟩ => args_nil ?_) na) na rfl
  subst ex
  cases r1
  obtain ⟨its, r, pl, hz⟩ := I1.list hq
  have hlen : its.toArray.size = ns.length := by
    have := r.length
    rw [List.length_map] at this
    simp [this]
  refine call_set_list (I1.ok.hd hc) pl.isList (ns := ns) (by simpa using ints_vals r) (by rw [hlen]; unfold scanBound; omega) fun h' tk hS hk => args_nil ?_
  rw [hlen, ded_met] at hS
  obtain ⟨o, es, ep, t, ho, hex, hd, _, _, _, hf, hn⟩ := hS
  have I2 : Inv X pins σ H1 { s1 with heap := h', toks := tk } := I1.kept fun b o e => hk b o (Heap.lt_size e) e
  have le := len_ded ns
  exact call_len_set ho hex hd hf (by rw [hn] <;> omega) ⟨.int (dedI ns).length, H1, I2.tok _, ⟨_, by rw [hn]⟩, q1⟩
theorem se_ls {a : Expr} {ta : T} {p p2 q pos : Pos} (G : Good g kk X W) (hk : 0 < kk) (hg : Gl X "len") (hm : X.mg "len" = none) (hg2 : Gl X "set") (hm2 : X.mg "set" = none) (hs : noStar a = true) (ha : SE g X W a (ev ce ta)) :
    SE g X W (.Call (.Name "len" p) [.Call (.Name "set" p2) [a] [] q] [] pos) (ev ce (.bi .setlen [ta])) := by
  intro e σ Hb H Q I h
  rw [ev] at h
  simp only [evs] at h
  refine tW_of (pe_ls hg hm hg2 hm2 (pe_W X a) (G.calm hk) hs) ?_
  refine ha e σ Hb H _ I ?_
  cases q1 : ev ce ta e with
  | rz x e' => rw [q1] at h; exact h
  | no => rw [q1] at h; exact h
  | ok v1 e1 =>
    rw [q1] at h
    intro x1 Hb1 H1 p1 r1
    have h1 : CA (PV g σ) g W σ Hb H e (ofO ((rds e1 [v1]).bind fun ds => bfn .setlen ds) e1) Q := h
    cases q2 : rd e1 v1 with
    | none => simp [rds, q2, CA] at h1
    | some d =>
      simp only [rds, q2, Option.bind, Option.map] at h1
      have r := r1.read p1.st q2
      cases d <;> first | (simp [bfn, CA] at h1; done) | skip
      rename_i l
      simp only [bfn] at h1
      cases q3 : intsD l with
      | none => simp [q3, CA] at h1
      | some ns =>
        simp only [q3, Option.bind] at h1
        by_cases hz : ns.length ≤ 4000
        · rw [if_pos hz] at h1
          obtain ⟨a, vs, rfl, e1, e2⟩ := r
          have := ints_of e2 q3
          subst this
          exact ⟨a, ns, rfl, by rw [G.hK]; exact e1, hz, h1 _ _ _ p1 rfl⟩
        · rw [if_neg hz] at h1; exact h1.elim
end
end Vd
/-! Vd8: isinstance, subscripts, slices. -/
namespace Vd
open PySem PySem.Spec PyProof.Rows L2

section
variable {g : Gx} {kk : Nat} {X : Cx} {W : WX} {ce : CE}
/-! ### isinstance -/
def tyN : Ty → String
  | .int => "int"
  | .str => "str"
  | .bool => "bool"
  | .tuple => "tuple"
  | .list => "list"
  | .dict => "dict"
  | .own _ => ""
def dN : D → String
  | .non => "NoneType"
  | .bl _ => "bool"
  | .int _ => "int"
  | .str _ => "str"
  | .tup _ => "tuple"
  | .lst _ => "list"
  | .dct _ => "dict"
  | .ins _ _ => ""
  | .exc _ _ => ""
  | .th _ => ""
def hasTy : D → Bool
  | .ins _ _ => false
  | .exc _ _ => false
  | .th _ => false
  | _ => true
theorem kit_int : ∀ t : Ty, t = .int ∨ t = .str ∨ t = .bool ∨ t = .tuple ∨ t = .list ∨ t = .dict →
    kitB "NoneType" (tyN t) = some false ∧ kitB "bool" (tyN t) = some (t == .int || t == .bool) ∧ kitB "int" (tyN t) = some (t == .int) ∧ kitB "str" (tyN t) = some (t == .str) ∧
    kitB "tuple" (tyN t) = some (t == .tuple) ∧ kitB "list" (tyN t) = some (t == .list) ∧ kitB "dict" (tyN t) = some (t == .dict) := by
  intro t h
  rcases h with h | h | h | h | h | h <;> subst h <;> decide +kernel
theorem isTy_kit {K : PySem.W.Frag} {d : D} {t : Ty} {b : Bool} (h : isTy d t = some b) : PySem.W.kitOne K (.type (dN d)) (.type (tyN t)) = some b := by
  apply kit_ty
  cases t with
  | own c => cases d <;> cases h
  | _ =>
    obtain ⟨h1, h2, h3, h4, h5, h6, h7⟩ := kit_int _ (by first | exact .inl rfl | exact .inr (.inl rfl) | exact .inr (.inr (.inl rfl)) | exact .inr (.inr (.inr (.inl rfl))) | exact .inr (.inr (.inr (.inr (.inl rfl)))) | exact .inr (.inr (.inr (.inr (.inr rfl)))))
    cases d <;> first
      | (cases h; done)
      | (cases h; first | exact h1 | exact h2 | exact h3 | exact h4 | exact h5 | exact h6 | exact h7)
theorem isTys_kit {K : PySem.W.Frag} {d : D} : ∀ {ts : List Ty} {b : Bool}, isTys d ts = some b → PySem.W.kitAny K (.type (dN d)) (ts.map fun t => .type (tyN t)) = some b
  | [], b, h => h
  | t :: r, b, h => by
    unfold isTys at h
    rw [List.map_cons]
    unfold PySem.W.kitAny
    cases q : isTy d t with
    | none => rw [q] at h; cases h
    | some b' =>
      rw [q] at h
      rw [isTy_kit q]
      cases b' with
      | true => exact h
      | false => exact isTys_kit h
theorem ty_of (hK : X.K = g.K) {Hb H : Hp} {d : D} {x : V} (ex : Ex Hb H) (r : RR g Hb H d x) (hd : hasTy d = true) : TyX X.K H x (.type (dN d)) := by
  cases d with
  | non => cases r; exact .base .non
  | bl b => cases r; exact .base (.bl b)
  | int i => cases r; exact .base (.int i)
  | str l =>
    have r' : x = .str (sT _) ∧ _ := r
    rw [r'.1]; exact .base (.str _)
  | tup l =>
    obtain ⟨a, vs, rfl, h1, _⟩ := r
    rw [hK]
    rcases ex.sqt h1 with (h | ⟨o, h⟩) | ⟨o, its, n, h1, h2, _⟩
    · exact .base (.tup h)
    · exact .fTuple h
    · exact .kTuple h1 h2
  | lst l =>
    obtain ⟨a, vs, rfl, h1, _⟩ := r
    rw [hK]
    rcases h1 with (h | ⟨o, h⟩) | ⟨o, its, n, h1, h2, _⟩
    · exact .base (.lst h)
    · exact .base (.frz h)
    · exact .kList h1 h2
  | dct l =>
    obtain ⟨a, vs, rfl, h1, _⟩ := r
    rcases h1 with h1 | ⟨o, h1⟩
    · exact .base (.dK h1)
    · exact .fDict h1
  | ins c fs => cases hd
  | exc c fs => cases hd
  | th k => cases hd
theorem isTys_ins {d : D} {ts : List Ty} {b : Bool} (h : isTys d ts = some b) (hn : ts ≠ []) : hasTy d = true := by
  cases d <;> first | rfl | skip
  all_goals
    cases ts with
    | nil => exact absurd rfl hn
    | cons t r => unfold isTys at h; cases t <;> simp [isTy] at h
/-- isinstance(a, T) -/
theorem se_isi {a : Expr} {ta : T} {t : Ty} {x : Str} {p p2 pos : Pos} (G : Good g kk X W) (hg : Gl X "isinstance") (hm : X.mg "isinstance" = none) (hg2 : Gl X x) (hm2 : X.mg x = none) (hv2 : bootBuiltins x = some (.type (tyN t))) (hn2 : x ≠ "__name__")
    (hdb2 : (x == ("__debug__" : Str)) = false) (hs : noStar a = true) (ha : SE g X W a (ev ce ta)) : SE g X W (.Call (.Name "isinstance" p) [a, .Name x p2] [] pos) (ev ce (.isi ta [t])) := by
  intro e σ Hb H Q I h
  rw [ev] at h
  have h1 := star1 hs [.Name x p2] X.env
  refine tW_of (pe_callB (call_W X _) hg hm PyProof.Rows.boot_isinstance (pa_cons (pe_W X a) (pa_cons (pe_bltn hg2 hm2 hv2 (v := .ty (tyN t)) rfl hn2 hdb2) pa_nil rfl) h1) (by decide) (by decide) h1 (plain_es (es := [.Name x p2]) rfl)) ?_
  refine ha e σ Hb H _ I (CA.bind early_V h fun v1 e1 x1 Hb1 H1 p1 r1 k1 => ?_)
  obtain ⟨d, v, q1, q2, k⟩ := CA.op1' k1
  cases q3 : isTys d [t] with
  | none => rw [q3] at q2; cases q2
  | some b =>
    rw [q3] at q2
    cases q2
    have hty := ty_of G.hK p1.st.ex (r1.read p1.st q1) (isTys_ins q3 (by simp))
    have hk := isTys_kit (K := X.K) q3
    have hk' : PySem.W.kitOne X.K (.type (dN d)) (.type (tyN t)) = some b := by
      simp only [List.map, PySem.W.kitAny] at hk
      cases z : PySem.W.kitOne X.K (.type (dN d)) (.type (tyN t)) with
      | none => rw [z] at hk; cases hk
      | some b' => rw [z] at hk; cases b' <;> exact hk
    exact cW_of call_isi ⟨x1, .ty (tyN t), _, _, b, rfl, .ty _, hty, hk', k _ _ _ (.refl p1.st) (blV_rv b)⟩
def tyPs : List (Str × Pos) → List Expr := List.map fun y => .Name y.1 y.2
theorem pa_tys : ∀ {l : List (Str × Pos)} {ts : List Ty}, l.length = ts.length → (∀ (i : Nat) (y : Str × Pos) (t : Ty), l[i]? = some y → ts[i]? = some t → Gl X y.1 ∧ X.mg y.1 = none ∧ bootBuiltins y.1 = some (.type (tyN t)) ∧ y.1 ≠ "__name__" ∧ (y.1 == ("__debug__" : Str)) = false) →
    ∀ σ H Q, Q (ts.map fun t => V.ty (tyN t)) H → tWA X (tyPs l) σ H Q
  | [], [], _, _, σ, H, Q, q => tWA_of pa_nil q
  | y :: l, t :: ts, hl, h, σ, H, Q, q => by
    obtain ⟨h1, h2, h3, h4, h5⟩ := h 0 y t rfl rfl
    refine tWA_of (pa_cons (pe_bltn h1 h2 h3 (v := .ty (tyN t)) rfl h4 h5) (pa_W X (tyPs l)) (by rfl)) ?_
    exact pa_tys (by simpa using hl) (fun i y t a b => h (i + 1) y t (by simpa using a) (by simpa using b)) σ H _ q
  | [], _ :: _, hl, _, _, _, _, _ => by cases hl
  | _ :: _, [], hl, _, _, _, _, _ => by cases hl
/-- isinstance(a, (T, ..)) -/
theorem se_isis {a : Expr} {ta : T} {l : List (Str × Pos)} {ts : List Ty} {k : Nat} {p pos tpos : Pos} (G : Good g kk X W) (hg : Gl X "isinstance") (hm : X.mg "isinstance" = none) (hl : l.length = ts.length) (hz : ts ≠ []) (hlen : ts.length ≤ 100)
    (h : ∀ (i : Nat) (y : Str × Pos) (t : Ty), l[i]? = some y → ts[i]? = some t → Gl X y.1 ∧ X.mg y.1 = none ∧ bootBuiltins y.1 = some (.type (tyN t)) ∧ y.1 ≠ "__name__" ∧ (y.1 == ("__debug__" : Str)) = false)
    (hs : noStar a = true) (ha : SE g X W a (ev ce ta)) : SE g X W (.Call (.Name "isinstance" p) [a, .Tuple (tyPs l) k tpos] [] pos) (ev ce (.isi ta ts)) := by
  intro e σ Hb H Q I hh
  rw [ev] at hh
  have h1 := star1 hs [.Tuple (tyPs l) k tpos] X.env
  refine tW_of (pe_callB (call_W X _) hg hm PyProof.Rows.boot_isinstance (pa_cons (pe_W X a) (pa_cons (pe_tup (pa_W X (tyPs l))) pa_nil rfl) h1) (by decide) (by decide) h1 (plain_es (es := [.Tuple (tyPs l) k tpos]) rfl)) ?_
  refine ha e σ Hb H _ I (CA.bind early_V hh fun v1 e1 x1 Hb1 H1 p1 r1 k1 => ?_)
  obtain ⟨d, v, q1, q2, kx⟩ := CA.op1' k1
  cases q3 : isTys d ts with
  | none => rw [q3] at q2; cases q2
  | some b =>
    rw [q3] at q2
    cases q2
    refine pa_tys hl h σ H1 _ ⟨by rw [List.length_map, ← line_eq]; unfold line; omega, fun n hn => ?_⟩
    have pt : PK g σ Hb1 H1 e1 Hb1 (upd H1 n (.tup (ts.map fun t => V.ty (tyN t)))) e1 := .temp p1.st hn
    have hty := ty_of G.hK pt.st.ex ((r1.step pt).read pt.st q1) (isTys_ins q3 hz)
    refine cW_of call_isiT ⟨x1, n, ts.map fun t => V.ty (tyN t), _, ts.map fun t => .type (tyN t), b, rfl, upd_same, ?_, hty, isTys_kit q3, kx _ _ _ pt (blV_rv b)⟩
    clear h hl hz hlen q3 hty pt hn kx hh k1
    induction ts with
    | nil => exact .nil
    | cons t ts ih => exact .cons (.ty _) ih

/-! ### subscripts -/
def xW (X : Cx) : R2 := fun x y H Q => ∀ value slice pins s σ v u, Inv X pins σ H s → RelV x v → RelV y u → subscripted slice false v u = operate [v, u] (getItem v u) → wpAny (model X.prog X.w) X.A (subscriptTail value slice v u) (EP X pins σ Q) X.xe s
theorem ix_W (X : Cx) : IxR X (xW X) := fun value slice pins s σ H x y v u Q I rx ry h hs => h value slice pins s σ v u I rx ry hs
theorem xW_of {r : R2} (h : IxR X r) {x y : V} {H : Hp} {Q : VK} (q : r x y H Q) : xW X x y H Q := fun value slice pins s σ v u I rx ry hs => h value slice pins s σ H x y v u Q I rx ry q hs
theorem at_ixn {α : Type} {l : List α} {i : Int} {d : α} (h : ((ixn l.length i).bind fun j => l[j]?) = some d) : atI l i = some d := h
theorem at_rps {Hb : Hp} {l : List D} {vs : List V} {i : Int} {d : D} (r : Rps g Hb l vs) (h : ((ixn l.length i).bind fun j => l[j]?) = some d) : ∃ v, atI vs i = some v ∧ Rp g Hb d v := by
  cases q : ixn l.length i with
  | none => rw [q] at h; cases h
  | some j =>
    rw [q] at h
    obtain ⟨v, h1, h2⟩ := r.get h
    have q' : ixN vs.length i = some j := by rw [r.length]; exact q
    exact ⟨v, by unfold atI; rw [q']; exact h1, h2⟩
theorem ix_dict (hu : X.A.units + 1 < cLine) : IxR X (fun x y H Q => ∃ a kvs k v, x = .ref a ∧ Rd H a (.dK kvs) ∧ y = kV k ∧ valV kvs k = some v ∧ Q v H) := by
  intro value slice pins s σ H x y v u Q I rx ry h hs
  obtain ⟨a, kvs, k, z, rfl, hh, rfl, hv, q⟩ := h
  obtain rfl : v = Value.ref a := rx
  have gt : DGet H a (kV k) (some z) := by rw [← hv]; exact dget_k hh
  have hT := dict_typeIs I gt
  unfold subscriptTail
  refine wpAny_bind ?_
  rw [getitemInPython_of_ne hT.not_modules]
  refine wpAny_bind (wpAny_specialOf hT PySem.F.slot_dict_getitem.lookup ?_)
  have fin : wpAny (model X.prog X.w) X.A (subscripted slice false (.ref a) u) (fun r s' => wpAny (model X.prog X.w) X.A (letTemporaryGo value (.ref a) r >>= fun _ => pure r) (EP X pins σ Q) X.xe s') X.xe s := by
    rw [hs]
    refine wpAny_operating (d_getItem hu I gt ry fun w' s3 I3 rw' => wpAny_bind (wpAny_letTemporaryGo (wpAny_pure ⟨z, H, I3, rw', q⟩)))
  first
    | exact wpAny_pure (wpAny_bind fin)
    | exact wpAny_bind (wpAny_pure (wpAny_bind fin))
    | exact wpAny_bind fin
theorem item_ok (hK : X.K = g.K) (hu : X.A.units + 64 < cLine) {a b d : D} (h : item a b = some d) {Hb H : Hp} {x y : V} {Q : VK} (ex : Ex Hb H) (ra : RR g Hb H a x) (rb : RR g Hb H b y) (q : ∀ z, Rp g Hb d z → Q z H) : xW X x y H Q := by
  unfold item at h
  split at h
  · obtain ⟨p, vs, rfl, h1, h2⟩ := ra
    cases rb
    obtain ⟨v, e1, e2⟩ := at_rps h2 h
    exact xW_of ix_list ⟨p, vs, _, v, rfl, rfl, by rw [hK]; exact h1, e1, q v e2⟩
  · obtain ⟨p, vs, rfl, h1, h2⟩ := ra
    cases rb
    obtain ⟨v, e1, e2⟩ := at_rps h2 h
    exact xW_of ix_tup ⟨p, vs, _, v, rfl, rfl, by rw [hK]; exact ex.sqt h1, e1, q v e2⟩
  · rename_i l i
    have ra' : x = .str (sT l) ∧ l.length ≤ sizeLine := ra
    obtain ⟨rfl, hz⟩ := ra'
    cases rb
    cases q1 : ixn l.length i with
    | none => rw [q1] at h; cases h
    | some j =>
      rw [q1] at h
      dsimp only [Option.bind] at h
      cases q2 : l[j]? with
      | none => rw [q2] at h; cases h
      | some c =>
        rw [q2] at h
        cases h
        refine xW_of ix_str ⟨sT l, i, c, rfl, rfl, by rw [len_sT]; exact hz, ?_, q _ ⟨rfl, by rw [← line_eq]; show 1 ≤ line; decide⟩⟩
        have e1 : (sT l).cps.toList = l := rfl
        rw [e1]
        exact at_ixn (by rw [q1]; exact q2)
  · rename_i l k _
    obtain ⟨p, kvs, rfl, h1, h2⟩ := ra
    cases q1 : keyOf b with
    | none => rw [q1] at h; cases h
    | some j =>
      rw [q1] at h
      obtain ⟨v, e1, e2⟩ := (rpk_look j h2).1 d h
      exact xW_of (ix_dict (by omega)) ⟨p, kvs, kT j, v, rfl, h1, key_V q1 (rb.rp ex), e1, q v e2⟩
  · cases h
def noSlice : Expr → Bool
  | .Slice _ _ _ _ => false
  | _ => true
theorem plainIx {b : Expr} (h : noSlice b = true) : PlainIx b := by
  cases b <;> first | (intro _ _; rfl) | (cases h; done)
theorem se_ix {a b : Expr} {ta tb : T} {pos : Pos} (G : Good g kk X W) (hs : noSlice b = true) (ha : SE g X W a (ev ce ta)) (hb : SE g X W b (ev ce tb)) : SE g X W (.Subscript a b pos) (ev ce (.ix ta tb)) := by
  intro e σ Hb H Q I h
  rw [ev] at h
  refine tW_of (pe_ix (ix_W X) (pe_W X a) (pe_W X b) (plainIx hs)) ?_
  refine ha e σ Hb H _ I (CA.bind early_V h fun v1 e1 x1 Hb1 H1 p1 r1 h1 => ?_)
  refine hb e1 σ Hb1 H1 _ p1.st (CA.bind early_V h1 fun v2 e2 x2 Hb2 H2 p2 r2 h2 => ?_)
  obtain ⟨d1, d2, d, q1, q2, q3, k⟩ := CA.op2 h2
  have r1' := r1.step p2
  exact item_ok G.hK G.hu q3 p2.st.ex (r1'.read p2.st q1) (r2.read p2.st q2) fun z rz => k z _ _ (.refl p2.st) rz

/-! ### slices -/
def lW (X : Cx) : V → Option Int → Option Int → Hp → VK → Prop := fun x lo hi H Q =>
  ∀ pins s σ v vl vu sl, Inv X pins σ H s → RelV x v → s.heap.IsSliceOf sl vl vu .none → IsPart vl lo → IsPart vu hi →
    ∃ T id, typeLookup (.type T) "__getitem__" = pure (some (.builtin id)) ∧ s.TypeIs v T ∧ wpAny (model X.prog X.w) X.A (getItem v (.ref sl)) (EP X pins σ Q) X.xe s
theorem sl_W (X : Cx) : SlR X (lW X) := fun pins s σ H x v vl vu lo hi sl Q I rx hs pl pu h => h pins s σ v vl vu sl I rx hs pl pu
theorem lW_of {r : V → Option Int → Option Int → Hp → VK → Prop} (h : SlR X r) {x : V} {lo hi : Option Int} {H : Hp} {Q : VK} (q : r x lo hi H Q) : lW X x lo hi H Q := fun pins s σ v vl vu sl I rx hs pl pu => h pins s σ H x v vl vu lo hi sl Q I rx hs pl pu q
def oW (X : Cx) (e : Option Expr) : TO := fun σ H Q => ∀ pins s, Inv X pins σ H s → wpAny (model X.prog X.w) X.A (evalPart e X.env) (fun u s' => ∃ o H', Inv X pins σ H' s' ∧ IsPart u o ∧ Q o H') X.xe s
theorem po_W (X : Cx) (e : Option Expr) : PO X e (oW X e) := ⟨fun pins s _ _ _ I h => h pins s I⟩
theorem oW_of {e : Option Expr} {t : TO} (h : PO X e t) {σ : L2.St} {H : Hp} {Q : Option Int → Hp → Prop} (q : t σ H Q) : oW X e σ H Q := fun pins s I => h.run pins s σ H Q I q
def SO (g : Gx) (X : Cx) (W : WX) (x : Option Expr) (m : VE → R (Option Int)) : Prop := ∀ e σ Hb H (Q : Option Int → Hp → Prop), VS g Hb e σ H → CA PQ g W σ Hb H e (m e) Q → oW X x σ H Q
theorem so_none : SO g X W none (evo ce none) := by
  intro e σ Hb H Q I h
  rw [evo] at h
  exact oW_of po_none (h _ _ _ (.refl I) rfl)
theorem so_some {a : Expr} {ta : T} (ha : SE g X W a (ev ce ta)) : SO g X W (some a) (evo ce (some ta)) := by
  intro e σ Hb H Q I h
  rw [evo] at h
  refine oW_of (po_some (pe_W X a)) ?_
  refine ha e σ Hb H _ I (CA.bind early_Q h fun v1 e1 x1 Hb1 H1 p1 r1 h1 => ?_)
  obtain ⟨d, i, q1, q2, k⟩ := CA.op1 h1
  have r := r1.read p1.st q1
  cases d <;> first | (cases q2; done) | skip
  cases q2
  exact ⟨_, r, k _ _ _ (.refl p1.st) rfl⟩
theorem clip_eq : clip = HT.sIx := by
  funext n d o
  cases o <;> rfl
theorem Rps.cut {Hb : Hp} {l : List D} {vs : List V} (h : Rps g Hb l vs) (lo hi : Option Int) : Rps g Hb (Vd.cut l lo hi) (cutV vs lo hi) := by
  unfold Vd.cut cutV
  rw [h.length, clip_eq]
  exact (h.drop _).take _
theorem slice_ok (hK : X.K = g.K) {a : D} {lo hi : Option Int} {v : Val} (h : slice a lo hi = some v) {e : VE} {σ : L2.St} {Hb H : Hp} {x : V} {Q : VK} (I : VS g Hb e σ H) (ra : RR g Hb H a x)
    (q : ∀ z Hb' H', PK g σ Hb H e Hb' H' e → RV g H Hb' H' e σ v z → Q z H') : lW X x lo hi H Q := by
  unfold slice at h
  split at h
  · cases h
    obtain ⟨p, vs, rfl, h1, h2⟩ := ra
    exact lW_of sl_list ⟨p, vs, rfl, by rw [hK]; exact h1, fun n hn => q _ _ _ (.temp I hn) (RV.temp I hn ⟨_, upd_same, h2.cut lo hi⟩)⟩
  · rename_i l
    cases h
    obtain ⟨p, vs, rfl, h1, h2⟩ := ra
    refine lW_of sl_tupA ⟨p, vs, rfl, by rw [hK]; exact I.ex.sqt h1, fun w => ?_, fun _ n hn => ?_⟩
    · refine q _ _ _ (.refl I) ⟨p, vs, rfl, h1, ?_⟩
      have e1 : Vd.cut l lo hi = l := by
        unfold Vd.cut
        rw [clip_eq, ← h2.length, w.1, w.2, List.drop_zero, Nat.sub_zero, h2.length, List.take_length]
      rw [e1]; exact h2
    · have hb := I.ex.back hn
      exact q _ _ _ (.new I hn) ⟨n, _, rfl, .of upd_same, Rps.mono (.new hb) _ _ (h2.cut lo hi)⟩
  · rename_i l
    cases h
    have ra' : x = .str (sT l) ∧ l.length ≤ sizeLine := ra
    obtain ⟨rfl, hz⟩ := ra'
    refine lW_of sl_str ⟨sT l, rfl, by rw [len_sT]; exact hz, q _ _ _ (.refl I) ⟨?_, ?_⟩⟩
    · unfold cutS Vd.cut
      rw [len_sT, clip_eq]
      rfl
    · unfold Vd.cut
      rw [List.length_take, List.length_drop]
      omega
  · cases h
theorem se_sl {a : Expr} {lo hi : Option Expr} {ta : T} {tl th : Option T} {p2 pos : Pos} (G : Good g kk X W) (ha : SE g X W a (ev ce ta)) (hl : SO g X W lo (evo ce tl)) (hh : SO g X W hi (evo ce th)) :
    SE g X W (.Subscript a (.Slice lo hi none p2) pos) (ev ce (.sl ta tl th)) := by
  intro e σ Hb H Q I h
  rw [ev] at h
  refine tW_of (pe_slice (sl_W X) (pe_W X a) (po_W X lo) (po_W X hi)) ?_
  refine ha e σ Hb H _ I (CA.bind early_V h fun v1 e1 x1 Hb1 H1 p1 r1 h1 => ?_)
  refine hl e1 σ Hb1 H1 _ p1.st (CA.bind early_V h1 fun l e2 x2 Hb2 H2 p2 r2 h2 => ?_)
  refine hh e2 σ Hb2 H2 _ p2.st (CA.bind early_V h2 fun u e3 x3 Hb3 H3 p3 r3 h3 => ?_)
  subst r2 r3
  obtain ⟨d, v, q1, q2, k⟩ := CA.op1' h3
  exact slice_ok G.hK q2 p3.st (((r1.step p2).step p3).read p3.st q1) k
end
end Vd
/-! Vd8b: exceptions that were caught: their fields, isinstance. -/
namespace Vd
open PySem PySem.Spec PyProof.Rows L2
/-- what the written part says of a class of exceptions, so that isinstance asks its instances rightly -/
structure ExcK (K : PySem.W.Frag) (C : Addr) : Prop where
  cl : (PySem.W.clsIn K C).isSome = true
  ga : PySem.W.findIn K (.ref C) "__getattribute__" = some (some (.builtin "BaseException.__getattribute__"))
  gt : PySem.W.findIn K (.ref C) "__getattr__" = some none
  be : PySem.W.subIn K (.ref C) (.type "BaseException") = some true
  ca : PySem.W.findIn K (.ref C) "__class__" = some (some (.builtin "object.__class__"))
  cg : PySem.W.specialIn K (.builtin "object.__class__") "__get__" = some (some (.builtin "getset_descriptor.__get__"))
  ct : PySem.W.takesIn K (.builtin "object.__class__") = some true
  ob : PySem.W.mroIn K C (.type "object") = some true
/-- what is known of the classes of exceptions -/
structure ClsF (K : PySem.W.Frag) (g : Gx) (ce : CE) : Prop where
  sub : ∀ c k b, ce.sub c k = some b → PySem.W.exmOne K (g.cv c) (g.cv k) = some b ∧ PySem.W.kitOne K (g.cv c) (g.cv k) = some b ∧ ∃ C, g.cv c = .ref C ∧ ExcK K C
  no : ∀ k, ce.kno k = true → ∀ d, hasTy d = true → PySem.W.kitOne K (.type (dN d)) (g.cv k) = some false
  fld : ∀ c n, n ∈ ce.flds c → ∃ C, g.cv c = .ref C ∧ XfC K C ∧ PySem.W.findIn K (.ref C) (g.fl n) = some none ∧ ∀ m ∈ ce.flds c, g.fl m = g.fl n → m = n
theorem mem_lookN {n : Nat} {d : D} : ∀ {fs : List (Nat × D)}, fs.lookup n = some d → (n, d) ∈ fs
  | [], h => by cases h
  | (m, d0) :: fs, h => by
    rw [List.lookup_cons] at h
    split at h
    · rename_i q
      cases h
      have : n = m := by simpa using q
      rw [this]; exact List.mem_cons_self
    · exact List.mem_cons_of_mem _ (mem_lookN h)
section
variable {g : Gx} {kk : Nat} {X : Cx} {W : WX} {ce : CE}
/-- a value of the class t, as isinstance sees it -/
def KitV (X : Cx) (H : Hp) (x : V) (t : Value) : Prop := ∀ (pins : List (Addr × Obj)) (σ : L2.St) (s : Shared) (u : Value), Inv X pins σ H s → RelV x u → ∃ Pr, PySem.W.KitX X.K u t Pr ∧ Pr s.heap ∧ u ≠ .builtin "__main__.__loader__#opaque"
theorem KitV.ty {H : Hp} {x : V} {t : Value} (h : TyX X.K H x t) : KitV X H x t := fun pins σ s u I r => by
  obtain ⟨Pr, Z, p, hx⟩ := kit_of I r h
  exact ⟨Pr, Z, p, hx⟩
theorem exH_at {H : Hp} {a : Addr} {C : Value} {d : Option Addr} {pins : List (Addr × Obj)} {σ : L2.St} {s : Shared} (I : Inv X pins σ H s) (h : H a = some (exH a C d)) : ∃ (oe : Obj) (vs : Array Value), s.heap.get? a = some oe ∧ oe.cls = C ∧ oe.dict = d ∧ oe.data = .fields vs := (I.hok a _ h).1
theorem KitV.exc {H : Hp} {a C : Addr} {d : Option Addr} {kfs : List (Str × V)} (T : ExcK X.K C) (h : H a = some (exH a (.ref C) d)) (hd : XDict H d kfs) : KitV X H (.ref a) (.ref C) := fun pins σ s u I r => by
  obtain rfl : u = Value.ref a := r
  obtain ⟨oe, vs, e1, e2, e3, e4⟩ := exH_at I h
  have nc : PySem.W.notCls oe = true := by unfold PySem.W.notCls; rw [e4]
  cases d with
  | none => exact ⟨_, PySem.W.kitx_exc (x := a) (ox := oe) (od := none) T.cl T.ga T.gt T.be T.ca T.cg T.ct T.ob, ⟨e1, e2, nc, by rw [e3]; trivial⟩, fun z => by cases z⟩
  | some dx =>
    obtain ⟨mA, hns, _⟩ := (show ObjOk X.prog X.w H s.heap dx (.xd kfs) from I.hok dx _ hd)
    obtain ⟨od, ho, _⟩ := lookIn_ns hns
    exact ⟨_, PySem.W.kitx_exc (x := a) (ox := oe) (od := some od) T.cl T.ga T.gt T.be T.ca T.cg T.ct T.ob, ⟨e1, e2, nc, by rw [e3]; exact ho⟩, fun z => by cases z⟩
def rIx (X : Cx) : List V → Hp → VK → Prop := fun xs H Q => ∃ (x c : V) (t u : Value) (b : Bool), xs = [x, c] ∧ ClsV c u ∧ KitV X H x t ∧ PySem.W.kitOne X.K t u = some b ∧ Q (.bl b) H
def rIxT (X : Cx) : List V → Hp → VK → Prop := fun xs H Q => ∃ (x : V) (tp : Addr) (cs : List V) (t : Value) (us : List Value) (b : Bool), xs = [x, .ref tp] ∧ H tp = some (.tup cs) ∧ Paired ClsV cs us ∧ KitV X H x t ∧ PySem.W.kitAny X.K t us = some b ∧ Q (.bl b) H
theorem call_ix : CallR X (.builtin "isinstance") (rIx X) := fun pins s σ H xs us Q I r h => by
  obtain ⟨x, c, t, u, b, rfl, hc, kv, e, q⟩ := h
  obtain ⟨u1, u2, rfl, r1, r2⟩ := vals2 r
  obtain rfl := hc.eq r2
  obtain ⟨Pr, Z, p, hx⟩ := kv _ _ _ _ I r1
  exact PySem.W.kia_one Z I.kIn p e hx fun tk => ⟨.bl b, H, I.tok tk, rfl, q⟩
theorem call_ixT : CallR X (.builtin "isinstance") (rIxT X) := fun pins s σ H xs us Q I r h => by
  obtain ⟨x, tp, cs, t, vs, b, rfl, hT, hc, kv, e, q⟩ := h
  obtain ⟨u1, u2, rfl, r1, r2⟩ := vals2 r
  obtain rfl : u2 = Value.ref tp := r2
  obtain ⟨Pr, Z, p, hx⟩ := kv _ _ _ _ I r1
  obtain ⟨_, its, rv, o, h1, h2, n, h3⟩ := (show ObjOk X.prog X.w H s.heap tp (.tup cs) from I.hok tp _ hT)
  obtain rfl := ClsV.all hc rv
  obtain ⟨oc, od, dt, sl⟩ := o
  simp only at h2 h3
  subst h2 h3
  exact PySem.W.kia_tup Z I.kIn p h1 e hx fun tk => ⟨.bl b, H, I.tok tk, rfl, q⟩
/-- the class of a value, asked for classes of exceptions -/
theorem isX_kit (F : ClsF X.K g ce) (hK : X.K = g.K) {Hb H : Hp} {d : D} {x : V} (ex : Ex Hb H) (r : RR g Hb H d x) {cs : List Nat} {b : Bool} (hn : cs ≠ []) (h : isX ce cs d = some b) : ∃ t, KitV X H x t ∧ PySem.W.kitAny X.K t (cs.map g.cv) = some b := by
  by_cases ht : hasTy d = true
  · refine ⟨_, .ty (ty_of hK ex r ht), ?_⟩
    have h' : (if cs.all ce.kno then some false else none) = some b := by
      cases d <;> first | (cases ht; done) | exact h
    split at h'
    · rename_i hc
      cases h'
      rw [List.all_eq_true] at hc
      clear h hn
      induction cs with
      | nil => rfl
      | cons k r' ih =>
        rw [List.map_cons]
        unfold PySem.W.kitAny
        rw [F.no k (hc k List.mem_cons_self) d ht]
        exact ih fun z hz => hc z (List.mem_cons_of_mem _ hz)
    · cases h'
  · cases d <;> first | (exact absurd rfl ht) | (cases h; done) | skip
    rename_i c fs
    obtain ⟨a, dd, kfs, rfl, h1, h2, h3⟩ := r
    have h' : subAny ce.sub c cs = some b := h
    have key : ∀ (cs : List Nat) (b : Bool), subAny ce.sub c cs = some b → PySem.W.kitAny X.K (g.cv c) (cs.map g.cv) = some b := by
      intro cs
      induction cs with
      | nil => exact fun b h => h
      | cons k r' ih =>
        intro b h
        unfold subAny at h
        rw [List.map_cons]
        unfold PySem.W.kitAny
        cases q : ce.sub c k with
        | none => rw [q] at h; cases h
        | some b' =>
          rw [q] at h
          rw [(F.sub c k b' q).2.1]
          cases b' with
          | true => exact h
          | false => exact ih b h
    refine ⟨_, ?_, key cs b h'⟩
    cases cs with
    | nil => exact absurd rfl hn
    | cons k r' =>
      unfold subAny at h'
      cases q : ce.sub c k with
      | none => rw [q] at h'; cases h'
      | some b' =>
        obtain ⟨_, _, C, eC, T⟩ := F.sub c k b' q
        rw [eC]
        rw [eC] at h1
        exact .exc T (ex _ _ h1) (h2.ex ex)
/-- the name x is the class k -/
def CN (X : Cx) (g : Gx) (x : Str) (k : Nat) : Prop := Gl X x ∧ (x == ("__debug__" : Str)) = false ∧ (∃ v, ClsV v (g.cv k)) ∧ (X.mg x = some (g.cv k) ∨ (X.mg x = none ∧ bootBuiltins x = some (g.cv k) ∧ x ≠ "__name__"))
theorem clsV_rel {v : V} {u : Value} (h : ClsV v u) : RelV v u := by cases h <;> rfl
theorem pe_cn {x : Str} {k : Nat} {p : Pos} (h : CN X g x k) : ∃ v, ClsV v (g.cv k) ∧ PE X (.Name x p) (tC v) := by
  obtain ⟨h1, h2, ⟨v, hv⟩, h3 | ⟨h3, h4, h5⟩⟩ := h
  · exact ⟨v, hv, pe_glob h1 h3 (clsV_rel hv) h2⟩
  · exact ⟨v, hv, pe_bltn h1 h3 h4 (clsV_rel hv) h5 h2⟩
/-- isinstance(a, C) -/
theorem se_isx {a : Expr} {ta : T} {k : Nat} {x : Str} {p p2 pos : Pos} (F : ClsF X.K g ce) (G : Good g kk X W) (hg : Gl X "isinstance") (hm : X.mg "isinstance" = none) (hc : CN X g x k) (hs : noStar a = true) (ha : SE g X W a (ev ce ta)) :
    SE g X W (.Call (.Name "isinstance" p) [a, .Name x p2] [] pos) (ev ce (.isx ta [k])) := by
  intro e σ Hb H Q I h
  rw [ev] at h
  obtain ⟨v, hv, hp⟩ := pe_cn (p := p2) hc
  have h1 := star1 hs [.Name x p2] X.env
  refine tW_of (pe_callB (call_W X _) hg hm PyProof.Rows.boot_isinstance (pa_cons (pe_W X a) (pa_cons hp pa_nil rfl) h1) (by decide) (by decide) h1 (plain_es (es := [.Name x p2]) rfl)) ?_
  refine ha e σ Hb H _ I (CA.bind early_V h fun v1 e1 x1 Hb1 H1 p1 r1 k1 => ?_)
  obtain ⟨d, w, q1, q2, kq⟩ := CA.op1' k1
  cases q3 : isX ce [k] d with
  | none => rw [q3] at q2; cases q2
  | some b =>
    rw [q3] at q2
    cases q2
    obtain ⟨t, kv, ka⟩ := isX_kit F G.hK p1.st.ex (r1.read p1.st q1) (by simp) q3
    have ko : PySem.W.kitOne X.K t (g.cv k) = some b := by
      rw [List.map_cons, List.map_nil] at ka
      unfold PySem.W.kitAny at ka
      cases z : PySem.W.kitOne X.K t (g.cv k) with
      | none => rw [z] at ka; cases ka
      | some b' => rw [z] at ka; cases b' <;> exact ka
    exact cW_of call_ix ⟨x1, v, t, _, b, rfl, hv, kv, ko, kq _ _ _ (.refl p1.st) (blV_rv b)⟩
theorem pa_cns : ∀ {l : List (Str × Pos)} {cs : List Nat}, l.length = cs.length → (∀ (i : Nat) (y : Str × Pos) (k : Nat), l[i]? = some y → cs[i]? = some k → CN X g y.1 k) →
    ∃ vs : List V, Paired ClsV vs (cs.map g.cv) ∧ ∀ σ H Q, Q vs H → tWA X (tyPs l) σ H Q
  | [], [], _, _ => ⟨[], .nil, fun σ H Q q => tWA_of pa_nil q⟩
  | y :: l, k :: cs, hl, h => by
    obtain ⟨v, hv, hp⟩ := pe_cn (p := y.2) (h 0 y k rfl rfl)
    obtain ⟨vs, h1, h2⟩ := pa_cns (l := l) (cs := cs) (by simpa using hl) fun i y k a b => h (i + 1) y k (by simpa using a) (by simpa using b)
    exact ⟨v :: vs, .cons hv h1, fun σ H Q q => tWA_of (pa_cons hp (pa_W X (tyPs l)) (by rfl)) (h2 σ H _ q)⟩
  | [], _ :: _, hl, _ => by cases hl
  | _ :: _, [], hl, _ => by cases hl
/-- isinstance(a, (C, ..)) -/
theorem se_isxs {a : Expr} {ta : T} {l : List (Str × Pos)} {cs : List Nat} {k : Nat} {p pos tpos : Pos} (F : ClsF X.K g ce) (G : Good g kk X W) (hg : Gl X "isinstance") (hm : X.mg "isinstance" = none) (hl : l.length = cs.length) (hz : cs ≠ []) (hlen : cs.length ≤ 100)
    (h : ∀ (i : Nat) (y : Str × Pos) (k : Nat), l[i]? = some y → cs[i]? = some k → CN X g y.1 k) (hs : noStar a = true) (ha : SE g X W a (ev ce ta)) : SE g X W (.Call (.Name "isinstance" p) [a, .Tuple (tyPs l) k tpos] [] pos) (ev ce (.isx ta cs)) := by
  intro e σ Hb H Q I hh
  rw [ev] at hh
  obtain ⟨vs, hv, hp⟩ := pa_cns hl h
  have h1 := star1 hs [.Tuple (tyPs l) k tpos] X.env
  refine tW_of (pe_callB (call_W X _) hg hm PyProof.Rows.boot_isinstance (pa_cons (pe_W X a) (pa_cons (pe_tup (pa_W X (tyPs l))) pa_nil rfl) h1) (by decide) (by decide) h1 (plain_es (es := [.Tuple (tyPs l) k tpos]) rfl)) ?_
  refine ha e σ Hb H _ I (CA.bind early_V hh fun v1 e1 x1 Hb1 H1 p1 r1 k1 => ?_)
  obtain ⟨d, w, q1, q2, kq⟩ := CA.op1' k1
  cases q3 : isX ce cs d with
  | none => rw [q3] at q2; cases q2
  | some b =>
    rw [q3] at q2
    cases q2
    refine hp σ H1 _ ⟨by rw [Paired.length hv, List.length_map, ← line_eq]; unfold line; omega, fun n hn => ?_⟩
    have pt : PK g σ Hb1 H1 e1 Hb1 (upd H1 n (.tup vs)) e1 := .temp p1.st hn
    obtain ⟨t, kv, ka⟩ := isX_kit F G.hK pt.st.ex ((r1.step pt).read pt.st q1) hz q3
    exact cW_of call_ixT ⟨x1, n, vs, t, _, b, rfl, upd_same, hv, kv, ka, kq _ _ _ pt (blV_rv b)⟩
/-- e.f of an exception that was caught -/
theorem pe_fx {e : Expr} {te : TE} {pos : Pos} {n : Str} (he : PE X e te) (hb : attributeBase e n X.env (eval e X.env) = eval e X.env) :
    PE X (.Attribute e n pos) (fun σ H Q => te σ H fun x H1 => ∃ (a C dx : Addr) (fs : List (Str × V)) (v : V), x = .ref a ∧ H1 a = some (exH a (.ref C) (some dx)) ∧ H1 dx = some (.xd fs) ∧ XfC X.K C ∧ PySem.W.findIn X.K (.ref C) n = some none ∧ fs.lookup n = some v ∧ Q v H1) := by
  refine ⟨fun pins s σ H Q I h => ?_⟩
  refine attr_of hb (thn (he.run pins s σ H _ I h) fun u s1 hh => ?_)
  obtain ⟨x, H1, I1, rx, a, C, dx, fs, v, ex, ea, ed, T, hno, l, q⟩ := hh
  subst ex
  obtain rfl : u = Value.ref a := rx
  obtain ⟨oe, us, e1, e2, e3, e4⟩ := exH_at I1 ea
  obtain ⟨mA, hns, hr⟩ := (show ObjOk X.prog X.w H1 s1.heap dx (.xd fs) from I1.hok dx _ ed)
  obtain ⟨od, ho, hl⟩ := lookIn_ns hns
  obtain ⟨u', hu, ru⟩ := RelO.some_of (v := v) (o := mA n) (by rw [← l]; exact hr n)
  have J : PySem.W.InstAt s1.heap a oe C (some od) := ⟨e1, e2, by unfold PySem.W.notCls; rw [e4], by rw [e3]; exact ho⟩
  exact HandSPX.exc_get I1.kIn J T.ga T.gg T.exC (PySem.W.findObj_own T.hdC hno rfl (by rw [hl, hu])) (handed_of ru) ⟨v, H1, I1.tok _, ru, q⟩
theorem rpf_look {Hb : Hp} {fl : List Nat} {n : Nat} (inj : ∀ m ∈ fl, g.fl m = g.fl n → m = n) : ∀ {fs : List (Nat × D)} {kfs : List (Str × V)} {d : D}, Rpf g Hb fs kfs → (∀ p ∈ fs, p.1 ∈ fl) → fs.lookup n = some d → ∃ v, kfs.lookup (g.fl n) = some v ∧ Rp g Hb d v
  | [], _, _, _, _, h => by cases h
  | (m, d0) :: fs, _, d, r, hm, h => by
    obtain ⟨v, r', rfl, h1, h2⟩ := r
    rw [List.lookup_cons] at h ⊢
    by_cases z : n = m
    · subst z
      simp at h
      subst h
      exact ⟨v, by simp, h1⟩
    · have z2 : (n == m) = false := by simpa using z
      rw [z2] at h
      have z3 : (g.fl n == g.fl m) = false := by
        rw [beq_eq_false_iff_ne]
        exact fun q => z (inj m (hm _ List.mem_cons_self) q.symm).symm
      rw [z3]
      exact rpf_look inj h2 (fun p hp => hm p (List.mem_cons_of_mem _ hp)) h
theorem se_fld {a : Expr} {ta : T} {n : Nat} {pos : Pos} (F : ClsF X.K g ce) (G : Good g kk X W) (hb : attributeBase a (g.fl n) X.env (eval a X.env) = eval a X.env) (ha : SE g X W a (ev ce ta)) : SE g X W (.Attribute a (g.fl n) pos) (ev ce (.fld ta n)) := by
  intro e σ Hb H Q I h
  rw [ev] at h
  refine tW_of (pe_fx (pe_W X a) hb) ?_
  refine ha e σ Hb H _ I (CA.bind early_V h fun v1 e1 x1 Hb1 H1 p1 r1 k1 => ?_)
  obtain ⟨d, w, q1, q2, kq⟩ := CA.op1' k1
  cases d <;> first | (cases q2; done) | skip
  rename_i c fs
  have q2' : (if fs.map (·.1) = (ce.flds c).reverse then (fs.lookup n).map .p else none) = some w := q2
  split at q2'
  · rename_i hk
    cases q3 : fs.lookup n with
    | none => rw [q3] at q2'; cases q2'
    | some d2 =>
      rw [q3] at q2'
      cases q2'
      obtain ⟨a1, dd, kfs, rfl, h1, h2, h3⟩ := r1.read p1.st q1
      have hin : ∀ p ∈ fs, p.1 ∈ ce.flds c := fun p hp => by
        have := List.mem_map_of_mem (f := fun p : Nat × D => p.1) hp
        rw [hk] at this
        exact List.mem_reverse.mp this
      have hn : n ∈ ce.flds c := hin (n, d2) (mem_lookN q3)
      obtain ⟨C, eC, T, hno, inj⟩ := F.fld c n hn
      obtain ⟨v, e4, r4⟩ := rpf_look inj h3 hin q3
      cases dd with
      | none =>
        have : kfs = [] := h2
        subst this
        cases e4
      | some dx =>
        rw [eC] at h1
        exact ⟨a1, C, dx, kfs, v, rfl, p1.st.ex _ _ h1, p1.st.ex _ _ h2, T, hno, e4, kq _ _ _ (.refl p1.st) r4⟩
  · cases q2'
end
end Vd
/-! Vd9: an own object is written; methods of lists; displays of dicts. -/
namespace Vd
open PySem PySem.Spec PyProof.Rows L2

section
variable {g : Gx} {kk : Nat} {X : Cx} {W : WX} {ce : CE} {σ : L2.St} {H0 Hb0 Hb H : Hp} {e0 e : VE}
theorem VS.write (I : VS g Hb e σ H) {i : Nat} {b k : Bool} {c c' : OC} {a : Addr} {o : HO} (h : e[i]? = some (.own b k c)) (hs : σ[i]? = some (some (.ref a))) (ro : RO g Hb (upd H a o) c' a) : VS g Hb (e.set i (.own b k c')) σ (upd H a o) := by
  obtain ⟨a0, z, hb, ro0⟩ := I.own i b k c h
  rw [hs] at z; cases z
  obtain ⟨u, hu, n1, n2⟩ := ro0.there
  have hi : i < e.length := (List.getElem?_eq_some_iff.mp h).1
  have tn : ¬ g.tb a := I.tb_ne fun ps q => by rw [hu] at q; cases q; exact n1 ps rfl
  have oth : ∀ (j : Nat) b' k' d, (e.set i (.own b k c'))[j]? = some (SS.own b' k' d) → (i = j ∧ d = c' ∧ b' = b ∧ k' = k) ∨ (i ≠ j ∧ e[j]? = some (SS.own b' k' d)) := fun j b' k' d q => by
    by_cases z : i = j
    · subst z
      rw [List.getElem?_set_self hi] at q
      cases q
      exact .inl ⟨rfl, rfl, rfl, rfl⟩
    · rw [List.getElem?_set_ne z] at q
      exact .inr ⟨z, q⟩
  have own0 : ∀ (j : Nat) b' k' d, (e.set i (.own b k c'))[j]? = some (SS.own b' k' d) → ∃ d0, e[j]? = some (SS.own b' k' d0) := fun j b' k' d q => by
    rcases oth j b' k' d q with ⟨rfl, _, rfl, rfl⟩ | ⟨_, q⟩
    · exact ⟨c, h⟩
    · exact ⟨d, q⟩
  refine ⟨by rw [List.length_set]; exact I.len, fun x v q => ?_, fun j d q => ?_, fun j b' k' d q => ?_, fun j l b1 k1 c1 b2 k2 c2 a' q1 q2 => ?_, ?_, fun x q => ?_⟩
  · have ne : x ≠ a := fun z => by rw [z, hb] at q; cases q
    rw [upd_ne ne]; exact I.ex x v q
  · by_cases z : i = j
    · subst z
      rw [List.getElem?_set_self hi] at q
      cases q
    · rw [List.getElem?_set_ne z] at q
      exact I.dat j d q
  · rcases oth j b' k' d q with ⟨rfl, rfl, rfl, rfl⟩ | ⟨nz, q⟩
    · exact ⟨a, hs, hb, ro⟩
    · obtain ⟨a', e1, e2, e3⟩ := I.own j b' k' d q
      have ne : a' ≠ a := fun z => nz (I.inj i j b k c b' k' d a h q hs (by rw [e1, z]))
      exact ⟨a', e1, e2, e3.mono (.refl _) fun o h => by rw [upd_ne ne]; exact h⟩
  · obtain ⟨d1, z1⟩ := own0 j b1 k1 c1 q1
    obtain ⟨d2, z2⟩ := own0 l b2 k2 c2 q2
    exact I.inj j l b1 k1 d1 b2 k2 d2 a' z1 z2
  · exact g.tokU _ _ _ I.tok (fun ps z => by rw [hu] at z; cases z; exact n1 ps rfl) (fun ps z => by rw [hu] at z; cases z; exact n2 ps rfl)
  · have ne : x ≠ a := fun z => tn (z ▸ q)
    exact ⟨(I.tbn x q).1, by rw [upd_ne ne]; exact (I.tbn x q).2⟩
theorem PK.write (I : VS g Hb e σ H) {i : Nat} {b : Bool} {c c' : OC} {a : Addr} {o : HO} (h : e[i]? = some (.own b false c)) (hs : σ[i]? = some (some (.ref a))) (ro : RO g Hb (upd H a o) c' a) (nf : c.isF = false := by rfl) : PK g σ Hb H e Hb (upd H a o) (e.set i (.own b false c')) := by
  have ek : EK e (e.set i (.own b false c')) := .set h (.turn b c c')
  obtain ⟨a0, z, hb, ro0⟩ := I.own i b false c h
  rw [hs] at z; cases z
  refine ⟨⟨.refl _, fun x u q n => ?_, fun _ _ q => .inl q, fun x q => .inl (ek.ow q), fun x q => ?_, fun x _ _ q => ?_⟩, I.write h hs ro, ek⟩
  · have ne : x ≠ a := fun z => n (z ▸ .inr ⟨i, b, false, c, h, hs⟩)
    rw [upd_ne ne]; exact q
  · by_cases ne : x = a
    · subst ne; rw [upd_same] at q; cases q
    · rw [upd_ne ne] at q; exact q
  · have ne : x ≠ a := fun z => by
      subst z
      cases c with
      | ol l => obtain ⟨_, h1, _⟩ := ro0; rw [h1] at q; cases q
      | od l => obtain ⟨_, h1, _⟩ := ro0; rw [h1] at q; cases q
      | oi c l => obtain ⟨_, _, h1, _⟩ := ro0; rw [h1] at q; cases q
      | fd l => cases nf
    rw [upd_ne ne]; exact q

/-! ### methods of lists -/
def mW (X : Cx) (id : String) : V → List V → Hp → VK → Prop := fun x xs H Q => ∀ pins s σ v us, Inv X pins σ H s → RelV x v → Vals xs us → wpAny (model X.prog X.w) X.A (call (.builtin id) (v :: us)) (EP X pins σ Q) X.xe s
theorem mt_W (X : Cx) (id : String) : MtR X id (mW X id) := fun pins s σ H x xs v us Q I rx rs h => h pins s σ v us I rx rs
theorem mW_of {id : String} {r : V → List V → Hp → VK → Prop} (h : MtR X id r) {x : V} {xs : List V} {H : Hp} {Q : VK} (q : r x xs H Q) : mW X id x xs H Q := fun pins s σ v us I rx rs => h pins s σ H x xs v us Q I rx rs q
def mNm : M1 → Str
  | .append => "append"
  | .extend => "extend"
  | .pop => "pop"
  | .insert => "insert"
  | .index => "index"
  | .count => "count"
  | .join => "join"
  | .split => "split"
  | .startswith => "startswith"
  | .partition => "partition"
  | .find => "find"
  | .get => "get"
  | .setdefault => "setdefault"
def noCall : Expr → Bool
  | .Call _ [] _ _ => false
  | _ => true
theorem base_of {o : Expr} (h : noCall o = true) (n : Str) (env : Env) (whole : Sem Value) : attributeBase o n env whole = whole := by
  cases o with
  | Call f as ks p =>
    cases as with
    | nil => cases h
    | cons a l => unfold attributeBase; first | rfl | (cases f <;> rfl)
  | _ => unfold attributeBase; rfl
theorem few_es {env : Env} {pos : Pos} : ∀ {es : List Expr}, es.all noStar = true → (backTo pos (starEach es env)).all (fun x => !x.1) = true
  | [], _ => rfl
  | a :: l, h => by
    rw [List.all_cons, Bool.and_eq_true] at h
    rw [star1 h.1]
    have ih := few_es (env := env) (pos := pos) h.2
    unfold backTo at ih ⊢
    rw [List.map_cons, List.all_cons, ih]
    rfl
theorem tyV_lst {Hb H : Hp} (hK : X.K = g.K) {d : D} {x : V} {m : M1} (hm : m = .append ∨ m = .extend ∨ m = .pop) (h : mOk m d = some ()) (r : RR g Hb H d x) : tyV X.K "list" x H := by
  rcases hm with rfl | rfl | rfl <;> (cases d <;> first | (cases h; done) | (obtain ⟨a, vs, rfl, h1, _⟩ := r; exact .inl ⟨rfl, vs, by rw [hK]; exact h1⟩))
/-- the slot of a view that is written: its address -/
theorem view_at (I : VS g Hb e σ H) {i : Nat} {x : V} {b k : Bool} {c : OC} (r : RV g H0 Hb H e σ (.vw i) x) (h : e[i]? = some (.own b k c)) : ∃ a, x = .ref a ∧ σ[i]? = some (some (.ref a)) ∧ RO g Hb H c a := by
  obtain ⟨a, z, _, ro⟩ := I.own i b k c h
  rw [r.1] at z; cases z
  exact ⟨a, rfl, r.1, ro⟩
theorem few_ok {env : Env} {pos : Pos} {a : Expr} {es : List Expr} (h : (a :: es).all noStar = true) (hl : (a :: es).length < 30) :
    ((backTo pos (starEach (a :: es) env)).all (fun x => !x.1) && (backToKw pos (keywordEach [] env)).all (fun x => x.1.isSome)
      && decide ((a :: es).length + ([] : List Keyword).length + (if ([] : List Keyword).isEmpty then 0 else 1) < 30)) = true := by
  rw [few_es h]
  simp only [Bool.and_eq_true, decide_eq_true_eq]
  refine ⟨⟨trivial, rfl⟩, ?_⟩
  simpa using hl
theorem se_append {a v : Expr} {ta tv : T} {apos cpos : Pos} (hK : X.K = g.K) (hc : noCall a = true) (hl : (apos.endLine == cpos.line) = true) (hs : noStar v = true) (ha : SE g X W a (ev ce ta)) (hv : SE g X W v (ev ce tv)) :
    SE g X W (.Call (.Attribute a "append" apos) [v] [] cpos) (ev ce (.mt .append ta [tv])) := by
  intro e σ Hb H Q I h
  rw [ev] at h
  simp only [evs] at h
  have hs' : [v].all noStar = true := by simpa using hs
  refine tW_of (pe_bm F.plainAttrs_list F.slot_list_append F.type_list_append mt_append (pe_W X a) (pa_cons (pe_W X v) pa_nil (star1 hs _ _)) (base_of hc _ _ _) (few_ok hs' (by simp)) hl (star1 hs _ _) rfl) ?_
  refine ha e σ Hb H _ I (CA.bind early_V h fun v1 e1 x1 Hb1 H1 p1 r1 h1 => ?_)
  obtain ⟨d, u, q1, q2, h2⟩ := CA.op1 h1
  refine ⟨tyV_lst hK (.inl rfl) (by cases u; exact q2) (r1.read p1.st q1), ?_⟩
  refine hv e1 σ Hb1 H1 _ p1.st ?_
  cases q3 : ev ce tv e1 with
  | rz x e' => rw [q3] at h2; exact h2
  | no => rw [q3] at h2; exact h2
  | ok v2 e2 =>
    rw [q3] at h2
    intro x2 Hb2 H2 p2 r2
    have h3 : CA (PV g σ) g W σ Hb1 H1 e1 (mfn .append v1 [v2] e2) Q := h2
    cases v1 with
    | p d => exact h3.elim
    | fr c => exact h3.elim
    | vw i =>
      obtain ⟨Hb3, p3, b3, k3⟩ := RVs.keep (vs := [v2]) (xs := [x2]) p2 ⟨x2, [], rfl, r2, rfl, fun _ _ j c' z => by simp at z⟩
      obtain ⟨y, r, ey, k3, er⟩ := k3
      cases er
      cases ey
      unfold mfn at h3
      dsimp only at h3
      cases q4 : fz e2 v2 with
      | none => rw [q4] at h3; exact h3.elim
      | some pr =>
        obtain ⟨d2, e3⟩ := pr
        rw [q4] at h3
        simp only [ofP_some, R.bind_ok] at h3
        obtain ⟨Hb4, p4, b4, ek4, s4⟩ := fz_ok p3 k3 q4
        split at h3
        · rename_i b l q5
          split at h3
          · rename_i hlen
            have r1' := r1.step p4
            obtain ⟨ad, rfl, hσ, ro⟩ := view_at p4.st r1' q5
            obtain ⟨vs, hh, rp⟩ := ro
            refine ⟨ad, vs, x2, rfl, rfl, hh, by rw [rp.length, ← line_eq]; exact hlen, ?_⟩
            exact h3 _ _ _ (p4.trans (.write p4.st q5 hσ ⟨_, upd_same, rp.app (.one s4)⟩)) rfl
          · exact h3.elim
        · exact h3.elim
theorem se_extend {a v : Expr} {ta tv : T} {apos cpos : Pos} (hK : X.K = g.K) (hc : noCall a = true) (hl : (apos.endLine == cpos.line) = true) (hs : noStar v = true) (ha : SE g X W a (ev ce ta)) (hv : SE g X W v (ev ce tv)) :
    SE g X W (.Call (.Attribute a "extend" apos) [v] [] cpos) (ev ce (.mt .extend ta [tv])) := by
  intro e σ Hb H Q I h
  rw [ev] at h
  simp only [evs] at h
  have hs' : [v].all noStar = true := by simpa using hs
  refine tW_of (pe_bm F.plainAttrs_list F.slot_list_extend F.type_list_extend mt_extL (pe_W X a) (pa_cons (pe_W X v) pa_nil (star1 hs _ _)) (base_of hc _ _ _) (few_ok hs' (by simp)) hl (star1 hs _ _) rfl) ?_
  refine ha e σ Hb H _ I (CA.bind early_V h fun v1 e1 x1 Hb1 H1 p1 r1 h1 => ?_)
  obtain ⟨d, u, q1, q2, h2⟩ := CA.op1 h1
  refine ⟨tyV_lst hK (.inr (.inl rfl)) (by cases u; exact q2) (r1.read p1.st q1), ?_⟩
  refine hv e1 σ Hb1 H1 _ p1.st ?_
  cases q3 : ev ce tv e1 with
  | rz x e' => rw [q3] at h2; exact h2
  | no => rw [q3] at h2; exact h2
  | ok v2 e2 =>
    rw [q3] at h2
    intro x2 Hb2 H2 p2 r2
    have h3 : CA (PV g σ) g W σ Hb1 H1 e1 (mfn .extend v1 [v2] e2) Q := h2
    cases v1 with
    | p d => exact h3.elim
    | fr c => exact h3.elim
    | vw i =>
      unfold mfn at h3
      dsimp only at h3
      split at h3
      · rename_i b l m q5 q6
        split at h3
        · rename_i hlen
          have r1' := r1.step p2
          obtain ⟨ad, rfl, hσ, ro⟩ := view_at p2.st r1' q5
          obtain ⟨vs, hh, rp⟩ := ro
          obtain ⟨ad2, ws, rfl, hh2, rp2⟩ := r2.read p2.st q6
          refine ⟨ad, ad2, vs, ws, rfl, rfl, hh, .inl (by rw [hK]; exact hh2), by rw [rp.length, rp2.length, ← line_eq]; exact hlen, ?_⟩
          exact h3 _ _ _ (p2.trans (.write p2.st q5 hσ ⟨_, upd_same, rp.app rp2⟩)) rfl
        · exact h3.elim
      · rename_i b l m q5 q6
        split at h3
        · rename_i hlen
          have r1' := r1.step p2
          obtain ⟨ad, rfl, hσ, ro⟩ := view_at p2.st r1' q5
          obtain ⟨vs, hh, rp⟩ := ro
          obtain ⟨ad2, ws, rfl, hh2, rp2⟩ := r2.read p2.st q6
          refine ⟨ad, ad2, vs, ws, rfl, rfl, hh, .inr (by rw [hK]; exact p2.st.ex.sqt hh2), by rw [rp.length, rp2.length, ← line_eq]; exact hlen, ?_⟩
          exact h3 _ _ _ (p2.trans (.write p2.st q5 hσ ⟨_, upd_same, rp.app rp2⟩)) rfl
        · exact h3.elim
      · exact h3.elim
theorem se_pop {a : Expr} {ta : T} {apos cpos : Pos} (hK : X.K = g.K) (hc : noCall a = true) (hl : (apos.endLine == cpos.line) = true) (ha : SE g X W a (ev ce ta)) :
    SE g X W (.Call (.Attribute a "pop" apos) [] [] cpos) (ev ce (.mt .pop ta [])) := by
  intro e σ Hb H Q I h
  rw [ev] at h
  simp only [evs] at h
  refine tW_of (pe_bm0 F.plainAttrs_list F.slot_list_pop F.type_list_pop mt_pop (pe_W X a) (base_of hc _ _ _) hl) ?_
  refine ha e σ Hb H _ I (CA.bind early_V h fun v1 e1 x1 Hb1 H1 p1 r1 h1 => ?_)
  obtain ⟨d, u, q1, q2, h2⟩ := CA.op1 h1
  refine ⟨tyV_lst hK (.inr (.inr rfl)) (by cases u; exact q2) (r1.read p1.st q1), ?_⟩
  have h3 : CA (PV g σ) g W σ Hb1 H1 e1 (mfn .pop v1 [] e1) Q := h2
  cases v1 with
  | p d => exact h3.elim
  | fr c => exact h3.elim
  | vw i =>
    unfold mfn at h3
    dsimp only at h3
    split at h3
    · rename_i b l q5
      split at h3
      · rename_i d2 q6
        obtain ⟨ad, rfl, hσ, ro⟩ := view_at p1.st r1 q5
        obtain ⟨vs, hh, rp⟩ := ro
        rw [List.getLast?_eq_getElem?] at q6
        obtain ⟨y, e1', e2'⟩ := rp.get q6
        refine ⟨ad, vs, y, rfl, rfl, hh, by rw [rp.length]; exact e1', ?_⟩
        exact h3 _ _ _ (.write p1.st q5 hσ ⟨_, upd_same, rp.dropLast⟩) e2'
      · exact h3.elim
    · exact h3.elim
end
end Vd
/-! Vd9b: methods of texts; list.insert. -/
namespace Vd
open PySem PySem.Spec PyProof.Rows L2
section
variable {g : Gx} {kk : Nat} {X : Cx} {W : WX} {ce : CE}
theorem sT_oS (s : Str) : sT (oS s) = s := by
  cases s with
  | mk c => show (⟨c.toList.toArray⟩ : Str) = ⟨c⟩; simp
theorem strV_ok {s : Str} {d : D} (h : strV s = some d) (Hb : Hp) : Rp g Hb d (.str s) := by
  unfold strV at h
  split at h
  · rename_i hz
    cases h
    refine ⟨by rw [sT_oS], ?_⟩
    have e : (oS s).length = s.length := by
      have := len_sT (oS s)
      rw [sT_oS] at this
      exact this.symm
    rw [e, ← line_eq]; exact hz
  · cases h
theorem strVs_ok : ∀ {l : List Str} {ds : List D}, strVs l = some ds → ∀ Hb : Hp, Rps g Hb ds (l.map V.str)
  | [], ds, h, Hb => by cases h; rfl
  | s :: l, ds, h, Hb => by
    unfold strVs at h
    cases q : strV s with
    | none => rw [q] at h; cases h
    | some d =>
      rw [q] at h
      dsimp only [Option.bind] at h
      cases q2 : strVs l with
      | none => rw [q2] at h; cases h
      | some r =>
        rw [q2] at h
        cases h
        exact ⟨_, _, rfl, strV_ok q Hb, strVs_ok q2 Hb⟩
theorem strsD_ok {Hb : Hp} : ∀ {l : List D} {vs : List V} {ys : List (List Nat)}, Rps g Hb l vs → strsD l = some ys → vs = (ys.map sT).map V.str
  | [], _, _, h, k => by cases k; cases h; rfl
  | d :: l, _, ys, h, k => by
    obtain ⟨v, r, rfl, h1, h2⟩ := h
    cases d <;> first | (cases k; done) | skip
    rename_i s
    simp only [strsD] at k
    cases q : strsD l with
    | none => rw [q] at k; cases k
    | some r' =>
      rw [q] at k
      cases k
      rw [strsD_ok h2 q, h1.1]
      rfl
def pmNm : Pm → Str
  | .startswith => "startswith"
  | .endswith => "endswith"
  | .find => "find"
  | .count => "count"
  | .index => "index"
  | .partition => "partition"
  | .split => "split"
  | .join => "join"
def pmId : Pm → String
  | .startswith => "str.startswith"
  | .endswith => "str.endswith"
  | .find => "str.find"
  | .count => "str.count"
  | .index => "str.index"
  | .partition => "str.partition"
  | .split => "str.split"
  | .join => "str.join"
theorem nil_sT {b : List Nat} (h : b.isEmpty = false) : ((sT b).length == 0) = false := by
  rw [len_sT]
  cases b with
  | nil => cases h
  | cons a l => rfl
theorem lens_sT (ys : List (List Nat)) : ((ys.map sT).map (·.length)) = ys.map List.length := by
  rw [List.map_map]
  apply List.map_congr_left
  intro a _
  exact len_sT a
theorem pfn_ok (G : Good g kk X W) {m : Pm} {d : D} {ds : List D} {v : Val} (h : pfn m d ds = some v) : ∀ e σ Hb H x xs (Q : VK), VS g Hb e σ H → RR g Hb H d x → RRs g Hb H ds xs → (∀ z Hb' H', PK g σ Hb H e Hb' H' e → RV g H Hb' H' e σ v z → Q z H') → mW X (pmId m) x xs H Q := by
  have hl := line_eq
  intro e σ Hb H x xs Q I r rs q
  unfold pfn at h
  split at h
  · cases h
    obtain ⟨y, rfl, ry⟩ := rs.one
    rw [r.1, ry.1]
    exact mW_of mt_startswith ⟨_, _, rfl, rfl, q _ _ _ (.refl I) rfl⟩
  · cases h
    obtain ⟨y, rfl, ry⟩ := rs.one
    rw [r.1, ry.1]
    exact mW_of mt_endswith ⟨_, _, rfl, rfl, q _ _ _ (.refl I) rfl⟩
  · cases h
    obtain ⟨y, rfl, ry⟩ := rs.one
    rw [r.1, ry.1]
    exact mW_of mt_find ⟨_, _, rfl, rfl, q _ _ _ (.refl I) rfl⟩
  · cases h
    obtain ⟨y, rfl, ry⟩ := rs.one
    rw [r.1, ry.1]
    exact mW_of mt_count ⟨_, _, rfl, rfl, q _ _ _ (.refl I) rfl⟩
  · obtain ⟨y, rfl, ry⟩ := rs.one
    rw [r.1, ry.1]
    split at h
    · rename_i i rest ho
      cases h
      exact mW_of mt_sindex ⟨_, _, i, rest, rfl, rfl, ho, q _ _ _ (.refl I) rfl⟩
    · cases h
  · rename_i a b
    obtain ⟨y, rfl, ry⟩ := rs.one
    rw [r.1, ry.1]
    split at h
    · rename_i hb
      cases q1 : strV (Txt.partition (sT a) (sT b)).1 with
      | none => rw [q1] at h; cases h
      | some d1 =>
        rw [q1] at h
        dsimp only [Option.bind] at h
        cases q2 : strV (Txt.partition (sT a) (sT b)).2.1 with
        | none => rw [q2] at h; cases h
        | some d2 =>
          rw [q2] at h
          dsimp only at h
          cases q3 : strV (Txt.partition (sT a) (sT b)).2.2 with
          | none => rw [q3] at h; cases h
          | some d3 =>
            rw [q3] at h
            cases h
            refine mW_of mt_partition ⟨_, _, rfl, rfl, nil_sT hb, by rw [len_sT]; exact r.2, fun p hp => ?_⟩
            have hbp := I.ex.back hp
            exact q _ _ _ (.new I hp) ⟨p, _, rfl, .of upd_same, _, _, rfl, strV_ok q1 _, _, _, rfl, strV_ok q2 _, _, _, rfl, strV_ok q3 _, rfl⟩
    · cases h
  · rename_i a b
    obtain ⟨y, rfl, ry⟩ := rs.one
    rw [r.1, ry.1]
    split at h
    · rename_i hb
      cases q1 : strVs (Txt.split (sT a) (sT b)) with
      | none => rw [q1] at h; cases h
      | some l =>
        rw [q1] at h
        cases h
        refine mW_of mt_split ⟨_, _, rfl, rfl, nil_sT hb.1, by rw [len_sT]; omega, fun p hp => ?_⟩
        exact q _ _ _ (.temp I hp) (RV.temp I hp ⟨_, upd_same, strVs_ok q1 _⟩)
    · cases h
  · rename_i a d'
    obtain ⟨y, rfl, ry⟩ := rs.one
    rw [r.1]
    cases q1 : strsOf d' with
    | none => rw [q1] at h; cases h
    | some ys =>
      rw [q1] at h
      dsimp only [Option.bind] at h
      split at h
      · rename_i hz
        cases q2 : strV (Txt.join (sT a) (ys.map sT)) with
        | none => rw [q2] at h; cases h
        | some d2 =>
          rw [q2] at h
          cases h
          have hsz : ((ys.map sT).map (·.length)).sum + (ys.map sT).length * (sT a).length ≤ 16777216 := by
            rw [lens_sT, List.length_map, len_sT]; exact hz
          cases d' <;> first | (cases q1; done) | skip
          · obtain ⟨p, vs, rfl, z1, z2⟩ := ry
            have e1 := strsD_ok z2 q1
            subst e1
            exact mW_of mt_join ⟨_, p, ys.map sT, rfl, rfl, .inr (by rw [G.hK]; exact I.ex.sqt z1), hsz, q _ _ _ (.refl I) (strV_ok q2 _)⟩
          · obtain ⟨p, vs, rfl, z1, z2⟩ := ry
            have e1 := strsD_ok z2 q1
            subst e1
            exact mW_of mt_join ⟨_, p, ys.map sT, rfl, rfl, .inl (by rw [G.hK]; exact z1), hsz, q _ _ _ (.refl I) (strV_ok q2 _)⟩
      · cases h
  · cases h
theorem se_pm {m : Pm} {a v : Expr} {ta : T} {ts : List T} {apos cpos : Pos} (G : Good g kk X W) (hc : noCall a = true) (hl : (apos.endLine == cpos.line) = true) (hs : noStar v = true) (ha : SE g X W a (ev ce ta)) (hv : SA g X W [v] (evs ce ts)) :
    SE g X W (.Call (.Attribute a (pmNm m) apos) [v] [] cpos) (ev ce (.pm m ta ts)) := by
  intro e σ Hb H Q I h
  rw [ev] at h
  have hs' : [v].all noStar = true := by simpa using hs
  have rule : ∀ {r : V → List V → Hp → VK → Prop} (slot : Slot "str" (pmNm m) (pmId m)) (hty : typeOf (.builtin (pmId m)) = pure (.type "method_descriptor")), tBM X.K "str" (mW X (pmId m)) (tW X a) (tWA X [v]) σ H Q → tW X (.Call (.Attribute a (pmNm m) apos) [v] [] cpos) σ H Q := fun slot hty q =>
    tW_of (pe_bm F.plainAttrs_str slot hty (mt_W X _) (pe_W X a) (pa_W X [v]) (base_of hc _ _ _) (few_ok hs' (by simp)) hl (star1 hs _ _) rfl) q
  have key : tBM X.K "str" (mW X (pmId m)) (tW X a) (tWA X [v]) σ H Q := by
    refine ha e σ Hb H _ I (CA.bind early_V h fun v1 e1 x1 Hb1 H1 p1 r1 h1 => ?_)
    obtain ⟨d, u, q1, q2, h2⟩ := CA.op1 h1
    have rr := r1.read p1.st q1
    refine ⟨?_, ?_⟩
    · cases d <;> first | (cases q2; done) | (rw [(show x1 = .str (sT _) ∧ _ from rr).1]; exact rfl)
    · refine hv e1 σ Hb1 H1 _ p1.st (CA.bind early_V h2 fun vs e2 xs Hb2 H2 p2 r2 h3 => ?_)
      obtain ⟨w, q3, k⟩ := CA.ofO' h3
      cases q4 : rd e2 v1 with
      | none => rw [q4] at q3; cases q3
      | some d' =>
        rw [q4] at q3
        dsimp only [Option.bind] at q3
        cases q5 : rds e2 vs with
        | none => rw [q5] at q3; cases q3
        | some ds =>
          rw [q5] at q3
          exact pfn_ok G q3 e2 σ Hb2 H2 x1 xs Q p2.st ((r1.step p2).read p2.st q4) (r2.reads p2.st q5) k
  cases m with
  | startswith => exact rule (r := fun _ _ _ _ => True) F.slot_str_startswith F.type_str_startswith key
  | endswith => exact rule (r := fun _ _ _ _ => True) F.slot_str_endswith F.type_str_endswith key
  | find => exact rule (r := fun _ _ _ _ => True) F.slot_str_find F.type_str_find key
  | count => exact rule (r := fun _ _ _ _ => True) F.slot_str_count F.type_str_count key
  | index => exact rule (r := fun _ _ _ _ => True) F.slot_str_index F.type_str_index key
  | partition => exact rule (r := fun _ _ _ _ => True) F.slot_str_partition F.type_str_partition key
  | split => exact rule (r := fun _ _ _ _ => True) F.slot_str_split F.type_str_split key
  | join => exact rule (r := fun _ _ _ _ => True) F.slot_str_join F.type_str_join key
theorem se_insert {a w v : Expr} {ta : T} {ts : List T} {apos cpos : Pos} (hK : X.K = g.K) (hc : noCall a = true) (hl : (apos.endLine == cpos.line) = true) (hs : [w, v].all noStar = true) (ha : SE g X W a (ev ce ta)) (hv : SA g X W [w, v] (evs ce ts)) :
    SE g X W (.Call (.Attribute a "insert" apos) [w, v] [] cpos) (ev ce (.mt .insert ta ts)) := by
  intro e σ Hb H Q I h
  rw [ev] at h
  have hs1 := hs
  rw [List.all_cons, Bool.and_eq_true] at hs1
  refine tW_of (pe_bm F.plainAttrs_list F.slot_list_insert F.type_list_insert mt_insert (pe_W X a) (pa_W X [w, v]) (base_of hc _ _ _) (few_ok hs (by simp)) hl (star1 hs1.1 _ _) (plain_es hs1.2)) ?_
  refine ha e σ Hb H _ I (CA.bind early_V h fun v1 e1 x1 Hb1 H1 p1 r1 h1 => ?_)
  obtain ⟨d, u, q1, q2, h2⟩ := CA.op1 h1
  have hty : tyV X.K "list" x1 H1 := by
    have r := r1.read p1.st q1
    cases d <;> first | (cases q2; done) | (obtain ⟨a, vs, rfl, h1, _⟩ := r; exact .inl ⟨rfl, vs, by rw [hK]; exact h1⟩)
  refine ⟨hty, ?_⟩
  refine hv e1 σ Hb1 H1 _ p1.st ?_
  cases q3 : evs ce ts e1 with
  | rz x e' => rw [q3] at h2; exact h2
  | no => rw [q3] at h2; exact h2
  | ok vs e2 =>
    rw [q3] at h2
    intro xs Hb2 H2 p2 r2
    have h3 : CA (PV g σ) g W σ Hb1 H1 e1 (mfn .insert v1 vs e2) Q := h2
    cases v1 with
    | p d => exact h3.elim
    | fr c => exact h3.elim
    | vw i =>
      match vs, h3, r2 with
      | [.p (.int k), v2], h3, r2 =>
        obtain ⟨y0, ys, rfl, r20, r21, _⟩ := r2
        have r20' : y0 = .int k := r20
        subst r20'
        obtain ⟨Hb3, p3, b3, k3⟩ := RVs.keep p2 r21
        obtain ⟨y, r, ey, k3, er⟩ := k3
        cases er
        subst ey
        have h4 : CA (PV g σ) g W σ Hb1 H1 e1 ((ofP (fz e2 v2)).bind fun d e => match e[i]? with
            | some (.own b false (.ol l)) => if l.length < line ∧ 0 ≤ k ∧ k < 2 ^ 63 then .ok (.p .non) (e.set i (.own b false (.ol (l.take k.toNat ++ [d] ++ l.drop k.toNat)))) else .no
            | _ => .no) Q := h3
        cases q4 : fz e2 v2 with
        | none => rw [q4] at h4; exact h4.elim
        | some pr =>
          obtain ⟨d2, e3⟩ := pr
          rw [q4] at h4
          simp only [ofP_some, R.bind_ok] at h4
          obtain ⟨Hb4, p4, b4, ek4, s4⟩ := fz_ok p3 k3 q4
          split at h4
          · rename_i b l q5
            split at h4
            · rename_i hlen
              obtain ⟨z1, z2, z3⟩ := hlen
              have r1' := r1.step p4
              obtain ⟨ad, rfl, hσ, ro⟩ := view_at p4.st r1' q5
              obtain ⟨ws, hh, rp⟩ := ro
              refine ⟨ad, ws, k, y, rfl, rfl, hh, by rw [rp.length, ← line_eq]; exact z1, z2, z3, ?_⟩
              exact h4 _ _ _ (p4.trans (.write p4.st q5 hσ (c' := .ol (l.take k.toNat ++ [d2] ++ l.drop k.toNat)) ⟨_, upd_same, ((rp.take _).app (.one s4)).app (rp.drop _)⟩)) rfl
            · exact h4.elim
          · exact h4.elim
      | [], h3, _ => exact h3.elim
      | [.vw _], h3, _ => exact h3.elim
      | [.fr _], h3, _ => exact h3.elim
      | [.p d0], h3, _ => cases d0 <;> exact h3.elim
      | .vw _ :: _ :: _, h3, _ => exact h3.elim
      | .fr _ :: _ :: _, h3, _ => exact h3.elim
      | .p .non :: _ :: _, h3, _ => exact h3.elim
      | .p (.bl _) :: _ :: _, h3, _ => exact h3.elim
      | .p (.str _) :: _ :: _, h3, _ => exact h3.elim
      | .p (.tup _) :: _ :: _, h3, _ => exact h3.elim
      | .p (.lst _) :: _ :: _, h3, _ => exact h3.elim
      | .p (.dct _) :: _ :: _, h3, _ => exact h3.elim
      | .p (.ins _ _) :: _ :: _, h3, _ => exact h3.elim
      | .p (.exc _ _) :: _ :: _, h3, _ => exact h3.elim
      | .p (.th _) :: _ :: _, h3, _ => exact h3.elim
      | .p (.int _) :: _ :: _ :: _, h3, _ => exact h3.elim
end
end Vd
/-! Vd10: displays of dicts; calls of defs. -/
namespace Vd
open PySem PySem.Spec PyProof.Rows L2

section
variable {g : Gx} {kk : Nat} {X : Cx} {W : WX} {ce : CE} {σ : L2.St} {H0 Hb0 Hb H : Hp} {e0 e : VE}
theorem PK.retemp {Hb1 H1 : Hp} {e1 : VE} (q : PK g σ Hb H e Hb1 H1 e1) {p : Addr} {o o0 : HO} (hp : H p = none) (ho : H1 p = some o0) (n1 : ∀ ps, o0 ≠ .tbl ps) (n2 : ∀ ps, o0 ≠ .ext ps) (no : ¬ Ow g e1 σ p) (hb : Hb1 p = none) : PK g σ Hb H e Hb1 (upd H1 p o) e1 := by
  have I := q.st
  refine ⟨⟨q.vp.b, fun a u z n => ?_, q.vp.n, q.vp.s, fun a z => ?_, fun a u v z => by rw [upd_ne (fun w => by rw [w, hp] at z; cases z)]; exact q.vp.f a u v z⟩, ⟨I.len, fun a u z => ?_, I.dat, fun i b k c z => ?_, I.inj, ?_, fun a z => ?_⟩, q.ek⟩
  · have ne : a ≠ p := fun w => by rw [w, hp] at z; cases z
    rw [upd_ne ne]; exact q.vp.k a u z n
  · by_cases ne : a = p
    · subst ne; exact hp
    · rw [upd_ne ne] at z; exact q.vp.t a z
  · have ne : a ≠ p := fun w => by rw [w, hb] at z; cases z
    rw [upd_ne ne]; exact I.ex a u z
  · obtain ⟨a, h1, h2, h3⟩ := I.own i b k c z
    have ne : a ≠ p := fun w => no (.inr ⟨i, b, k, c, z, by rw [h1, w]⟩)
    exact ⟨a, h1, h2, h3.mono (.refl _) fun u w => by rw [upd_ne ne]; exact w⟩
  · exact g.tokU _ _ _ I.tok (fun ps z => by rw [ho] at z; cases z; exact n1 ps rfl) (fun ps z => by rw [ho] at z; cases z; exact n2 ps rfl)
  · have ne : a ≠ p := fun w => no (.inl (w ▸ z))
    exact ⟨(I.tbn a z).1, by rw [upd_ne ne]; exact (I.tbn a z).2⟩
/-- rows of pairs: constant keys -/
def prs (X : Cx) (l : List (DK × Expr)) : List (TE × TE) := l.map fun p => (tC (kV (kT p.1)), tW X p.2)
def SD (g : Gx) (X : Cx) (W : WX) (l : List (DK × Expr)) (m : VE → R (List Val)) : Prop :=
  ∀ e σ Hb H (Q : List V → Hp → Prop), VS g Hb e σ H → CA (PL g σ) g W σ Hb H e (m e) Q → tPairs (prs X l) σ H fun ps H' => ∃ xs, xs.length = l.length ∧ ps = (((l.map fun p => kT p.1).zip xs).map fun kv => (kV kv.1, kv.2)) ∧ Q xs H'
theorem sd_nil : SD g X W [] (evs ce []) := by
  intro e σ Hb H Q I h
  rw [evs] at h
  exact ⟨[], rfl, rfl, h [] Hb H (.refl I) rfl⟩
theorem sd_cons {k : DK} {a : Expr} {l : List (DK × Expr)} {ta : T} {ts : List T} (ha : SE g X W a (ev ce ta)) (hr : SD g X W l (evs ce ts)) : SD g X W ((k, a) :: l) (evs ce (ta :: ts)) := by
  intro e σ Hb H Q I h
  rw [evs] at h
  show tW X a σ H _
  refine ha e σ Hb H _ I ?_
  cases q1 : ev ce ta e with
  | ok v1 e1 =>
    rw [q1] at h
    intro x1 Hb1 H1 p1 r1
    dsimp only [R.bind] at h
    have key := hr e1 σ Hb1 H1 (fun xs H' => Q (x1 :: xs) H') p1.st (by
      cases q2 : evs ce ts e1 with
      | ok v2 e2 =>
        rw [q2] at h
        intro x2 Hb2 H2 p2 r2
        exact h (x1 :: x2) Hb2 H2 (p1.trans p2) (RVs.cons r1 p2 p1.vp.t r2)
      | rz xd e2 =>
        rw [q2] at h
        exact fun cls d Hb' H' p2 rx => h cls d Hb' H' (p1.trans p2) rx
      | no => rw [q2] at h; exact h)
    have mono : ∀ (trs : List (TE × TE)), (∀ p ∈ trs, ∀ σ H (Q Q' : VK), (∀ v H, Q v H → Q' v H) → (p.1 σ H Q → p.1 σ H Q') ∧ (p.2 σ H Q → p.2 σ H Q')) → ∀ σ H (Q Q' : List (V × V) → Hp → Prop), (∀ v H, Q v H → Q' v H) → tPairs trs σ H Q → tPairs trs σ H Q' := by
      intro trs
      induction trs with
      | nil => intro _ σ H Q Q' hq h; exact hq _ _ h
      | cons p r ih =>
        intro hp σ H Q Q' hq h
        have hh := hp p (by simp)
        exact (hh σ H _ _ fun v H h => (hh σ H _ _ fun v H h => ih (fun p m => hp p (by simp [m])) σ H _ _ (fun v H h => hq _ _ h) h).2 h).1 h
    refine mono (prs X l) (fun p m => ?_) σ H1 _ _ (fun ps H' ⟨xs, hl, e1, q⟩ => ⟨x1 :: xs, by simp [hl], by rw [e1]; rfl, q⟩) key
    obtain ⟨y, _, rfl⟩ := List.mem_map.mp m
    intro σ H Q Q' hq
    exact ⟨fun h => hq _ _ h, fun h pins s J => thn (h pins s J) fun u s' ⟨v, H', J', r, q⟩ => ⟨v, H', J', r, hq _ _ q⟩⟩
  | rz xd e1 => rw [q1] at h; exact h
  | no => rw [q1] at h; exact h
theorem rpk_fold : ∀ (ks : List DK) (ds : List D) (xs : List V) (acc : List (DK × D)) (accv : List (Key × V)), Rps g Hb ds xs → Rpk g Hb acc accv →
    Rpk g Hb ((ks.zip ds).foldl (fun acc kv => putD acc kv.1 kv.2) acc) (((ks.map kT).zip xs).foldl (fun acc kv => putK acc kv.1 kv.2) accv)
  | [], _, _, _, _, _, h => h
  | k :: ks, [], _, _, _, r, h => by cases r; exact h
  | k :: ks, d :: ds, _, acc, accv, r, h => by
    obtain ⟨x, xs, rfl, h1, h2⟩ := r
    exact rpk_fold ks ds xs _ _ h2 (rpk_put h1 h)
theorem se_dct {keys : List (Option Expr)} {l : List (DK × Expr)} {ts : List T} {pos : Pos} (hp : PPs X pos keys (l.map (·.2)) (prs X l)) (hall : keys.all (·.isSome) = true) (hl : keys.length = l.length) (h0 : l ≠ []) (h15 : l.length ≤ 15) (hs : SD g X W l (evs ce ts)) :
    SE g X W (.Dict keys (l.map (·.2)) pos) (ev ce (.dct (l.map (·.1)) ts)) := by
  intro e σ Hb H Q I h
  rw [ev] at h
  refine tW_of (pe_disp hp hall (by rw [hl]; simp) (fun z => h0 (by rw [z] at hl; exact List.length_eq_zero_iff.mp hl.symm)) (by omega)) ?_
  intro p hn
  have pt := PK.temp (o := .dK []) I hn
  have no := not_ow I hn
  have key := hs e σ Hb _ (fun xs H2 => xs.length = l.length → H2 p = some (.dK []) ∧ Q (.ref p) (upd H2 p (.dK (mergeK [] ((l.map fun p => kT p.1).zip xs))))) pt.st (by
    cases q1 : evs ce ts e with
    | no => rw [q1] at h; exact h
    | rz xd e1 => rw [q1] at h; exact fun cls d Hb' H' pk rx => h cls d Hb' H' (pt.trans pk) rx
    | ok vs e1 =>
      rw [q1] at h
      intro xs Hb1 H1 p1 r1 hlen
      dsimp only [R.bind] at h
      have e1p : H1 p = some (.dK []) := p1.vp.k p _ upd_same no
      refine ⟨e1p, ?_⟩
      cases q2 : fzs vs e1 with
      | none => rw [q2] at h; exact h.elim
      | some y =>
        obtain ⟨ds, e2⟩ := y
        rw [q2] at h
        simp only [ofP_some] at h
        obtain ⟨Hb2, p2, b2, k2⟩ := RVs.keep p1 r1
        obtain ⟨Hb3, p3, b3, s3⟩ := fzs_ok p2 k2 q2
        by_cases hz : ds.length ≤ 15
        · rw [if_pos hz] at h
          have no2 : ¬ Ow g e2 σ p := fun z => no (p3.ek.ow z)
          have hb3 : Hb3 p = none := by
            cases q : Hb3 p with
            | none => rfl
            | some u =>
              rcases p3.vp.n p u q with z | z | z
              · rw [I.ex.back hn] at z; cases z
              · rw [upd_same] at z; cases z
              · exact absurd z no
          have pf := (pt.trans p3).retemp (o := .dK (mergeK [] ((l.map fun p => kT p.1).zip xs))) hn e1p (fun _ z => by cases z) (fun _ z => by cases z) no2 hb3
          refine h _ _ _ pf ⟨p, rfl, hn, hb3, ⟨_, upd_same, ?_⟩, no2⟩
          have := rpk_fold (g := g) (Hb := Hb3) (l.map (·.1)) ds xs [] [] s3 rfl
          rw [List.map_map] at this
          exact this
        · rw [if_neg hz] at h; exact h.elim)
  have mono : ∀ (trs : List (TE × TE)), (∀ p ∈ trs, ∀ σ H (Q Q' : VK), (∀ v H, Q v H → Q' v H) → (p.1 σ H Q → p.1 σ H Q') ∧ (p.2 σ H Q → p.2 σ H Q')) → ∀ σ H (Q Q' : List (V × V) → Hp → Prop), (∀ v H, Q v H → Q' v H) → tPairs trs σ H Q → tPairs trs σ H Q' := by
    intro trs
    induction trs with
    | nil => intro _ σ H Q Q' hq h; exact hq _ _ h
    | cons p r ih =>
      intro hp σ H Q Q' hq h
      have hh := hp p (by simp)
      exact (hh σ H _ _ fun v H h => (hh σ H _ _ fun v H h => ih (fun p m => hp p (by simp [m])) σ H _ _ (fun v H h => hq _ _ h) h).2 h).1 h
  refine mono (prs X l) (fun p m => ?_) σ _ _ _ (fun ps H' ⟨xs, hlen, e1, q⟩ => ?_) key
  · obtain ⟨y, _, rfl⟩ := List.mem_map.mp m
    intro σ H Q Q' hq
    exact ⟨fun h => hq _ _ h, fun h pins s J => thn (h pins s J) fun u s' ⟨v, H', J', r, q⟩ => ⟨v, H', J', r, hq _ _ q⟩⟩
  · obtain ⟨q1, q2⟩ := q hlen
    exact ⟨q1, _, e1, by simp [hlen]; omega, q2⟩
theorem se_dct0 {pos : Pos} : SE g X W (.Dict [] [] pos) (ev ce (.dct [] [])) := by
  intro e σ Hb H Q I h
  rw [ev] at h
  simp only [evs, R.bind_ok, fzs, ofP_some] at h
  refine tW_of pe_dnewK fun p hp => ?_
  rw [if_pos (by decide)] at h
  exact h _ _ _ (.temp I hp) (RV.temp I hp ⟨_, upd_same, rfl⟩)
end
end Vd
/-! Vd11: calls of defs. -/
namespace Vd
open PySem PySem.Spec PyProof.Rows L2

/-- what a call may turn of an argument -/
inductive AR : Arg → Arg → Prop where
  | same (a : Arg) : AR a a
  | turn (c c' : OC) : AR (.o false c) (.o false c')
structure AK (l l' : List Arg) : Prop where
  len : l'.length = l.length
  at' : ∀ (i : Nat) (a : Arg), l[i]? = some a → ∃ a', l'[i]? = some a' ∧ AR a a'
abbrev aE (l : List Arg) : VE := l.map Arg.ss
abbrev aS (vs : List V) : L2.St := vs.map some
/-- the promise of a def that computes F -/
def spD (g : Gx) (n : Nat) (F : List Arg → RF) : Sp := fun vs H Q E => vs.length = n ∧ ∃ (as : List Arg) (Hb : Hp), VS g Hb (aE as) (aS vs) H ∧
  match F as with
  | .ok r as' => ∀ x Hb' H', VP (Ow g (aE as) (aS vs)) Hb H (Ow g (aE as') (aS vs)) Hb' H' → VS g Hb' (aE as') (aS vs) H' → AK as as' → RV g H Hb' H' (aE as') (aS vs) r.val x → Q x H'
  | .rz xd as' => ∀ cls d Hb' H', VP (Ow g (aE as) (aS vs)) Hb H (Ow g (aE as') (aS vs)) Hb' H' → VS g Hb' (aE as') (aS vs) H' → AK as as' → RX g Hb' H' xd cls d → E cls d H'
  | .no => False
section
variable {g : Gx} {kk : Nat} {X : Cx} {W : WX} {ce : CE} {σ : L2.St} {H0 Hb H : Hp} {e : VE}
/-- an argument stands for a value at hand -/
def Hands (g : Gx) (Hb : Hp) (e : VE) (σ : L2.St) : Val → Arg → V → Prop := fun v a x =>
  (∃ d, a = .p d ∧ Rp g Hb d x) ∨ ∃ i b k c, v = .vw i ∧ a = .o k c ∧ e[i]? = some (.own b k c) ∧ σ[i]? = some (some x)
theorem hands_of (I : VS g Hb e σ H) {v : Val} {a : Arg} {x : V} (r : RK g Hb e σ v x) (h : argOf e v = some a) : Hands g Hb e σ v a x := by
  cases v with
  | p d => cases h; exact .inl ⟨d, rfl, r⟩
  | fr c => cases h; exact .inl ⟨_, rfl, r⟩
  | vw i =>
    obtain ⟨h1, s, h2, n⟩ := r
    dsimp only [argOf] at h
    rw [h2] at h
    split at h
    · rename_i d hd
      cases hd
      cases h
      obtain ⟨y, e1, e2⟩ := I.dat i _ h2
      rw [h1] at e1; cases e1
      exact .inl ⟨d, rfl, e2⟩
    · rename_i b k c hd
      cases hd
      cases h
      exact .inr ⟨i, b, k, c, rfl, rfl, h2, h1⟩
    · cases h
theorem hands_all (I : VS g Hb e σ H) : ∀ {vs : List Val} {as : List Arg} {xs : List V}, RKs g Hb e σ vs xs → argsOf e vs = some as → as.length = vs.length ∧ xs.length = vs.length ∧ ∀ (j : Nat) v, vs[j]? = some v → ∃ a x, as[j]? = some a ∧ xs[j]? = some x ∧ Hands g Hb e σ v a x
  | [], _, _, h, k => by cases k; cases h; exact ⟨rfl, rfl, fun j v z => by simp at z⟩
  | w :: l, as, _, h, k => by
    obtain ⟨x, r, rfl, h1, h2⟩ := h
    unfold argsOf at k
    cases q : argOf e w with
    | none => rw [q] at k; cases k
    | some a =>
      rw [q] at k
      dsimp only [Option.bind] at k
      cases q2 : argsOf e l with
      | none => rw [q2] at k; cases k
      | some as2 =>
        rw [q2] at k
        cases k
        obtain ⟨l1, l2, l3⟩ := hands_all I h2 q2
        refine ⟨by simp [l1], by simp [l2], fun j v z => ?_⟩
        cases j with
        | zero =>
          cases z
          exact ⟨a, x, rfl, rfl, hands_of I h1 q⟩
        | succ j =>
          obtain ⟨a', x', z1, z2, z3⟩ := l3 j v (by simpa using z)
          exact ⟨a', x', by simpa using z1, by simpa using z2, z3⟩
theorem mod_ne {e : VE} {i j : Nat} {f : SS → SS} (h : i ≠ j) : (e.modify i f)[j]? = e[j]? := by
  rw [List.getElem?_modify]
  simp only [if_neg h]
  cases e[j]? <;> rfl
theorem mod_eq {e : VE} {i : Nat} {s : SS} {f : SS → SS} (h : e[i]? = some s) : (e.modify i f)[i]? = some (f s) := by
  rw [List.getElem?_modify, h]
  simp
theorem vws_at : ∀ {vs : List Val} {j i : Nat}, vs[j]? = some (.vw i) → i ∈ vws vs
  | [], _, _, h => by simp at h
  | v :: l, 0, i, h => by
    simp at h; subst h
    unfold vws; exact List.mem_cons_self
  | v :: l, j + 1, i, h => by
    have := vws_at (vs := l) (j := j) (by simpa using h)
    cases v <;> unfold vws <;> first | exact List.mem_cons_of_mem _ this | exact this
theorem vws_inj : ∀ {vs : List Val} {j j' i : Nat}, (vws vs).Nodup → vs[j]? = some (.vw i) → vs[j']? = some (.vw i) → j = j'
  | [], _, _, _, _, h, _ => by simp at h
  | v :: l, 0, 0, i, _, _, _ => rfl
  | v :: l, 0, j' + 1, i, nd, h, h' => by
    simp at h; subst h
    unfold vws at nd
    exact absurd (vws_at (vs := l) (j := j') (by simpa using h')) (List.nodup_cons.mp nd).1
  | v :: l, j + 1, 0, i, nd, h, h' => by
    simp at h'; subst h'
    unfold vws at nd
    exact absurd (vws_at (vs := l) (j := j) (by simpa using h)) (List.nodup_cons.mp nd).1
  | v :: l, j + 1, j' + 1, i, nd, h, h' => by
    have nd' : (vws l).Nodup := by
      cases v <;> unfold vws at nd <;> first | exact (List.nodup_cons.mp nd).2 | exact nd
    have hr : j = j' := vws_inj (vs := l) (i := i) nd' (by simpa using h) (by simpa using h')
    rw [hr]
/-- lent objects behind the call -/
theorem putA_len : ∀ (vs : List Val) (as : List Arg) (e : VE), (putA vs as e).length = e.length
  | [], as, e => by cases as <;> (unfold putA; rfl)
  | v :: l, [], e => by cases v <;> (unfold putA; rfl)
  | v :: l, a :: m, e => by
    cases v with
    | vw i =>
      cases a with
      | o k c => unfold putA; rw [putA_len l m]; simp
      | p d => unfold putA; exact putA_len l m e
    | p d => unfold putA; exact putA_len l m e
    | fr c => unfold putA; exact putA_len l m e
theorem putA_off : ∀ (vs : List Val) (as : List Arg) (e : VE) (i : Nat), i ∉ vws vs → (putA vs as e)[i]? = e[i]?
  | [], as, e, i, _ => by cases as <;> (unfold putA; rfl)
  | v :: l, [], e, i, _ => by cases v <;> (unfold putA; rfl)
  | v :: l, a :: m, e, i, h => by
    cases v with
    | vw j =>
      unfold vws at h
      simp only [List.mem_cons, not_or] at h
      cases a with
      | o k c =>
        unfold putA
        rw [putA_off l m _ i h.2, mod_ne (fun z => h.1 z.symm)]
      | p d => unfold putA; exact putA_off l m e i h.2
    | p d => unfold putA; exact putA_off l m e i (by unfold vws at h; exact h)
    | fr c => unfold putA; exact putA_off l m e i (by unfold vws at h; exact h)
theorem putA_on : ∀ (vs : List Val) (as : List Arg) (e : VE) (j i : Nat) (b k k' : Bool) (c c' : OC), (vws vs).Nodup → vs[j]? = some (.vw i) → as[j]? = some (.o k' c') → e[i]? = some (.own b k c) → (putA vs as e)[i]? = some (.own b k c')
  | [], _, _, _, _, _, _, _, _, _, _, h, _, _ => by simp at h
  | _ :: _, [], _, _, _, _, _, _, _, _, _, _, h, _ => by simp at h
  | v :: l, a :: m, e, 0, i, b, k, k', c, c', nd, h, h', he => by
    simp at h h'
    subst h h'
    unfold vws at nd
    unfold putA
    rw [putA_off l m _ i (List.nodup_cons.mp nd).1, mod_eq he]
    rfl
  | v :: l, a :: m, e, j + 1, i, b, k, k', c, c', nd, h, h', he => by
    have h1 : l[j]? = some (.vw i) := by simpa using h
    have h2 : m[j]? = some (.o k' c') := by simpa using h'
    cases v with
    | vw i' =>
      unfold vws at nd
      have nd' := (List.nodup_cons.mp nd).2
      have ne : i' ≠ i := fun z => (List.nodup_cons.mp nd).1 (z ▸ vws_at h1)
      cases a with
      | o k2 c2 =>
        unfold putA
        refine putA_on l m _ j i b k k' c c' nd' h1 h2 ?_
        rw [mod_ne ne, he]
      | p d => unfold putA; exact putA_on l m e j i b k k' c c' nd' h1 h2 he
    | p d => unfold putA; unfold vws at nd; exact putA_on l m e j i b k k' c c' nd h1 h2 he
    | fr c => unfold putA; unfold vws at nd; exact putA_on l m e j i b k k' _ c' nd h1 h2 he
theorem vws_mem : ∀ {vs : List Val} {i : Nat}, i ∈ vws vs → ∃ j : Nat, vs[j]? = some (.vw i)
  | [], _, h => by simp [vws] at h
  | v :: l, i, h => by
    cases v with
    | vw i' =>
      unfold vws at h
      rcases List.mem_cons.mp h with rfl | h
      · exact ⟨0, rfl⟩
      · obtain ⟨j, q⟩ := vws_mem h; exact ⟨j + 1, by simpa using q⟩
    | p d => unfold vws at h; obtain ⟨j, q⟩ := vws_mem h; exact ⟨j + 1, by simpa using q⟩
    | fr c => unfold vws at h; obtain ⟨j, q⟩ := vws_mem h; exact ⟨j + 1, by simpa using q⟩
/-- the frame of the callee -/
theorem VS.enter (I : VS g Hb e σ H) {vs : List Val} {as : List Arg} {xs : List V} (nd : (vws vs).Nodup) (r : RKs g Hb e σ vs xs) (h : argsOf e vs = some as) :
    VS g Hb (aE as) (aS xs) H ∧ (∀ a, Ow g (aE as) (aS xs) a → Ow g e σ a) := by
  obtain ⟨l1, l2, l3⟩ := hands_all I r h
  have at1 : ∀ (j : Nat) a, as[j]? = some a → ∃ v x, vs[j]? = some v ∧ xs[j]? = some x ∧ Hands g Hb e σ v a x := fun j a z => by
    have hj : j < vs.length := by rw [← l1]; exact (List.getElem?_eq_some_iff.mp z).1
    obtain ⟨a', x, z1, z2, z3⟩ := l3 j vs[j] (List.getElem?_eq_getElem hj)
    rw [z] at z1; cases z1
    exact ⟨_, x, List.getElem?_eq_getElem hj, z2, z3⟩
  have own1 : ∀ (j : Nat) b k c, (aE as)[j]? = some (SS.own b k c) → ∃ i b0 a, vs[j]? = some (.vw i) ∧ xs[j]? = some (.ref a) ∧ b = true ∧ e[i]? = some (.own b0 k c) ∧ σ[i]? = some (some (.ref a)) := fun j b k c z => by
    rw [List.getElem?_map] at z
    cases q : as[j]? with
    | none => rw [q] at z; cases z
    | some a =>
      rw [q] at z
      cases a with
      | p d => cases z
      | o k' c' =>
        cases z
        obtain ⟨v, x, z1, z2, z3⟩ := at1 j _ q
        rcases z3 with ⟨d, z, _⟩ | ⟨i, b0, k0, c0, rfl, z, z4, z5⟩
        · cases z
        · cases z
          obtain ⟨a, e1, _, _⟩ := I.own i b0 _ _ z4
          rw [z5] at e1; cases e1
          exact ⟨i, b0, a, z1, z2, rfl, z4, z5⟩
  have sg : ∀ (j : Nat) (x : V), xs[j]? = some x → (aS xs)[j]? = some (some x) := fun j x z => by rw [List.getElem?_map, z]; rfl
  have sg' : ∀ (j : Nat) (x : V), (aS xs)[j]? = some (some x) → xs[j]? = some x := fun j x z => by
    rw [List.getElem?_map] at z
    cases q : xs[j]? with
    | none => rw [q] at z; cases z
    | some y => rw [q] at z; cases z; rfl
  refine ⟨⟨by simp [l1, l2], I.ex, fun j d z => ?_, fun j b k c z => ?_, fun j j' b k c b' k' c' a z z' s s' => ?_, I.tok, I.tbn⟩, fun a z => ?_⟩
  · rw [List.getElem?_map] at z
    cases q : as[j]? with
    | none => rw [q] at z; cases z
    | some a =>
      rw [q] at z
      cases a with
      | o k c => cases z
      | p d' =>
        cases z
        obtain ⟨v, x, z1, z2, z3⟩ := at1 j _ q
        rcases z3 with ⟨d, z, r⟩ | ⟨i, b0, k0, c0, rfl, z, _⟩
        · cases z; exact ⟨x, sg j x z2, r⟩
        · cases z
  · obtain ⟨i, b0, a, z1, z2, rfl, z4, z5⟩ := own1 j b k c z
    obtain ⟨a', e1, e2, e3⟩ := I.own i b0 k c z4
    rw [z5] at e1; cases e1
    exact ⟨a, sg j _ z2, e2, e3⟩
  · obtain ⟨i, b0, a1, z1, z2, rfl, z4, z5⟩ := own1 j b k c z
    obtain ⟨i', b0', a2, z1', z2', rfl, z4', z5'⟩ := own1 j' b' k' c' z'
    have e1 := sg' _ _ s
    have e2 := sg' _ _ s'
    rw [z2] at e1; cases e1
    rw [z2'] at e2; cases e2
    have := I.inj i i' b0 k c b0' k' c' a z4 z4' z5 z5'
    subst this
    exact vws_inj nd z1 z1'
  · rcases z with z | ⟨j, b, k, c, z1, z2⟩
    · exact .inl z
    · obtain ⟨i, b0, a1, y1, y2, rfl, y4, y5⟩ := own1 j b k c z1
      have e1 := sg' _ _ z2
      rw [y2] at e1; cases e1
      exact .inr ⟨i, b0, k, c, y4, y5⟩
/-- back in the caller's frame -/
theorem VS.leave (I : VS g Hb e σ H) {vs : List Val} {as as' : List Arg} {xs : List V} {Hb' H' : Hp} (nd : (vws vs).Nodup) (r : RKs g Hb e σ vs xs) (h : argsOf e vs = some as)
    (vp : VP (Ow g (aE as) (aS xs)) Hb H (Ow g (aE as') (aS xs)) Hb' H') (I' : VS g Hb' (aE as') (aS xs) H') (ak : AK as as') : PK g σ Hb H e Hb' H' (putA vs as' e) := by
  obtain ⟨l1, l2, l3⟩ := hands_all I r h
  have hsub := (I.enter nd r h).2
  have sg : ∀ (j : Nat) (x : V), xs[j]? = some x → (aS xs)[j]? = some (some x) := fun j x z => by rw [List.getElem?_map, z]; rfl
  -- each own slot of the caller
  have each : ∀ (i : Nat) b k c, e[i]? = some (SS.own b k c) → (i ∉ vws vs ∧ (putA vs as' e)[i]? = some (.own b k c)) ∨ ∃ (j : Nat) (x : V) (c' : OC), vs[j]? = some (Val.vw i) ∧ as[j]? = some (Arg.o k c) ∧ as'[j]? = some (Arg.o k c') ∧ (k = true → c' = c) ∧ xs[j]? = some x ∧ σ[i]? = some (some x) ∧ (putA vs as' e)[i]? = some (.own b k c') := fun i b k c z => by
    by_cases m : i ∈ vws vs
    · right
      obtain ⟨j, hj⟩ := vws_mem m
      obtain ⟨a, x, z1, z2, z3⟩ := l3 j _ hj
      rcases z3 with ⟨d, rfl, _⟩ | ⟨i', b0, k0, c0, ev, rfl, z4, z5⟩
      · exfalso
        -- the slot holds data: no
        have : argOf e (.vw i) = some (.p d) := by
          have hh : ∀ {vs : List Val} {as : List Arg} {j : Nat} {v : Val} {a : Arg}, argsOf e vs = some as → vs[j]? = some v → as[j]? = some a → argOf e v = some a := by
            intro vs
            induction vs with
            | nil => intro as j v a _ h; simp at h
            | cons w l ih =>
              intro as j v a hk hv ha
              unfold argsOf at hk
              cases q : argOf e w with
              | none => rw [q] at hk; cases hk
              | some a0 =>
                rw [q] at hk
                dsimp only [Option.bind] at hk
                cases q2 : argsOf e l with
                | none => rw [q2] at hk; cases hk
                | some as2 =>
                  rw [q2] at hk
                  cases hk
                  cases j with
                  | zero => simp at hv ha; subst hv ha; exact q
                  | succ j => exact ih q2 (by simpa using hv) (by simpa using ha)
          exact hh h hj z1
        dsimp only [argOf] at this
        rw [z] at this
        cases this
      · cases ev
        rw [z] at z4; cases z4
        obtain ⟨a', y1, y2⟩ := ak.at' j _ z1
        have y3 : ∃ c', a' = .o k c' ∧ (k = true → c' = c) := by
          cases y2 with
          | same => exact ⟨c, rfl, fun _ => rfl⟩
          | turn _ c' => exact ⟨c', rfl, fun w => by cases w⟩
        obtain ⟨c', rfl, y4⟩ := y3
        exact ⟨j, x, c', hj, z1, y1, y4, z2, z5, putA_on vs as' e j i b k k c c' nd hj y1 z⟩
    · exact .inl ⟨m, by rw [putA_off vs as' e i m]; exact z⟩
  have nown : ∀ (i : Nat) s, e[i]? = some s → (∀ b k c, s ≠ .own b k c) → (putA vs as' e)[i]? = some s := fun i s z hs => by
    have gen : ∀ (vs : List Val) (as : List Arg) (e : VE), e[i]? = some s → (putA vs as e)[i]? = some s := by
      intro vs
      induction vs with
      | nil => intro as e z; cases as <;> (unfold putA; exact z)
      | cons v l ih =>
        intro as e z
        cases as with
        | nil => cases v <;> (unfold putA; exact z)
        | cons a m =>
          cases v with
          | p d => unfold putA; exact ih m e z
          | fr d => unfold putA; exact ih m e z
          | vw j =>
            cases a with
            | p d => unfold putA; exact ih m e z
            | o k c =>
              unfold putA
              refine ih m _ ?_
              by_cases w : j = i
              · subst w
                rw [mod_eq z]
                cases s with
                | own b k c => exact absurd rfl (hs b k c)
                | un => rfl
                | dat d => rfl
              · rw [mod_ne w, z]
    exact gen vs as' e z
  have len : (putA vs as' e).length = e.length := putA_len _ _ _
  have from' : ∀ (i : Nat) s', (putA vs as' e)[i]? = some s' → ∃ s, e[i]? = some s := fun i s' z => by
    have hi : i < e.length := by rw [← len]; exact (List.getElem?_eq_some_iff.mp z).1
    exact ⟨_, List.getElem?_eq_getElem hi⟩
  have ownb : ∀ (i : Nat) b k c', (putA vs as' e)[i]? = some (SS.own b k c') → ∃ c, e[i]? = some (.own b k c) := fun i b k c' z => by
    obtain ⟨s, hs⟩ := from' i _ z
    cases s with
    | un => rw [nown i _ hs (by simp)] at z; cases z
    | dat d => rw [nown i _ hs (by simp)] at z; cases z
    | own b0 k0 c0 =>
      rcases each i b0 k0 c0 hs with ⟨_, w⟩ | ⟨j, x, c2, _, _, _, _, _, _, w⟩ <;> (rw [w] at z; cases z; exact ⟨_, hs⟩)
  have ek : EK e (putA vs as' e) := ⟨len, fun i s z => by
    cases s with
    | un => exact ⟨_, nown i _ z (by simp), .same _⟩
    | dat d => exact ⟨_, nown i _ z (by simp), .same _⟩
    | own b k c =>
      rcases each i b k c z with ⟨_, w⟩ | ⟨j, x, c2, _, _, _, w2, _, _, w⟩
      · exact ⟨_, w, .same _⟩
      · refine ⟨_, w, ?_⟩
        cases k with
        | true => rw [w2 rfl]; exact .same _
        | false => exact .turn b c c2⟩
  have out : ∀ (i : Nat) b k c a, e[i]? = some (SS.own b k c) → i ∉ vws vs → σ[i]? = some (some (.ref a)) → ¬ Ow g (aE as) (aS xs) a := fun i b k c a z m s w => by
    rcases w with w | ⟨j, b', k', c', w1, w2⟩
    · obtain ⟨a', e1, _, ro⟩ := I.own i b k c z
      rw [s] at e1; cases e1
      obtain ⟨u, hu, n1, _⟩ := ro.there
      obtain ⟨ps, q⟩ := (I.tbn a w).2
      rw [q] at hu; cases hu
      exact n1 ps rfl
    · -- the callee's own slot is a caller's slot
      rw [List.getElem?_map] at w1
      cases q : as[j]? with
      | none => rw [q] at w1; cases w1
      | some ar =>
        rw [q] at w1
        cases ar with
        | p d => cases w1
        | o k2 c2 =>
          have hj : j < vs.length := by rw [← l1]; exact (List.getElem?_eq_some_iff.mp q).1
          obtain ⟨a', x, z1, z2, z3⟩ := l3 j vs[j] (List.getElem?_eq_getElem hj)
          rw [q] at z1; cases z1
          rcases z3 with ⟨d, z4, _⟩ | ⟨i', b0, k0, c0, ev, z4, z5, z6⟩
          · cases z4
          · have e1 := sg j x z2
            rw [w2] at e1; cases e1
            have := I.inj i i' b k c b0 k0 c0 a z z5 s z6
            subst this
            exact m (vws_at (j := j) (by rw [List.getElem?_eq_getElem hj, ev]))
  refine ⟨vp.widen hsub fun a w => .inl (ek.ow w), ⟨by rw [len]; exact I.len, I'.ex, fun i d z => ?_, fun i b k c' z => ?_, fun i j b k c b' k' c' a z1 z2 s1 s2 => ?_, I'.tok, I'.tbn⟩, ek⟩
  · obtain ⟨s, hs⟩ := from' i _ z
    cases s with
    | un => rw [nown i _ hs (by simp)] at z; cases z
    | dat d' =>
      rw [nown i _ hs (by simp)] at z; cases z
      obtain ⟨v, e1, e2⟩ := I.dat i d hs
      exact ⟨v, e1, Rp.mono vp.b d v e2⟩
    | own b k c =>
      rcases each i b k c hs with ⟨_, w⟩ | ⟨j, x, c2, _, _, _, _, _, _, w⟩ <;> (rw [w] at z; cases z)
  · obtain ⟨c, hs⟩ := ownb i b k c' z
    rcases each i b k c hs with ⟨m, w⟩ | ⟨j, x, c2, hj, w1, w2, _, w4, w5, w⟩
    · rw [w] at z; cases z
      obtain ⟨a, e1, e2, e3⟩ := I.own i b k _ hs
      have no := out i b k _ a hs m e1
      obtain ⟨u, hu, _⟩ := e3.there
      refine ⟨a, e1, ?_, e3.mono vp.b fun o q => vp.k a o q no⟩
      cases q : Hb' a with
      | none => rfl
      | some v =>
        rcases vp.n a v q with y | y | y
        · rw [e2] at y; cases y
        · rw [hu] at y; cases y
        · exact absurd y no
    · rw [w] at z; cases z
      have q : (aE as')[j]? = some (SS.own true k c') := by rw [List.getElem?_map, w2]; rfl
      obtain ⟨a, e1, e2, e3⟩ := I'.own j true k c' q
      rw [sg j x w4] at e1; cases e1
      exact ⟨a, w5, e2, e3⟩
  · obtain ⟨c1, h1⟩ := ownb i b k c z1
    obtain ⟨c2, h2⟩ := ownb j b' k' c' z2
    exact I.inj i j b k c1 b' k' c2 a h1 h2 s1 s2
end
end Vd
namespace Vd
open PySem PySem.Spec PyProof.Rows L2
section
variable {g : Gx} {kk : Nat} {X : Cx} {W : WX} {ce : CE}
theorem evs_len : ∀ {ts : List T} {e : VE} {vs : List Val} {e1 : VE}, evs ce ts e = .ok vs e1 → vs.length = ts.length
  | [], e, vs, e1, h => by rw [evs] at h; cases h; rfl
  | t :: ts, e, vs, e1, h => by
    rw [evs] at h
    cases q : ev ce t e with
    | rz x e2 => rw [q] at h; cases h
    | no => rw [q] at h; cases h
    | ok v e2 =>
      rw [q] at h
      dsimp only [R.bind] at h
      cases q2 : evs ce ts e2 with
      | rz x e2 => rw [q2] at h; cases h
      | no => rw [q2] at h; cases h
      | ok r e3 =>
        rw [q2] at h
        cases h
        rw [List.length_cons, List.length_cons, evs_len q2]
theorem RVs.length {H0 Hb H : Hp} {e : VE} {σ : L2.St} : ∀ {vs : List Val} {xs : List V}, RVs g H0 Hb H e σ vs xs → xs.length = vs.length
  | [], _, h => by cases h; rfl
  | v :: l, _, h => by
    obtain ⟨x, r, rfl, _, h2, _⟩ := h
    rw [List.length_cons, List.length_cons, RVs.length h2]
/-- the arguments at hand, the promise is met -/
theorem call_go {σ : L2.St} {Hb H Hb1 H1 : Hp} {e e1 : VE} {f n : Nat} {vs : List Val} {xs : List V} {Q : VK} (hn : vs.length = n) (p1 : PK g σ Hb H e Hb1 H1 e1) (r1 : RVs g H Hb1 H1 e1 σ vs xs)
    (h : CA (PV g σ) g W σ Hb H e (callR ce f vs e1) Q) : spD g n (ce.fn f) xs H1 Q (WE W σ) := by
  unfold callR at h
  by_cases nd : (vws vs).Nodup
  · rw [if_pos nd] at h
    cases q : argsOf e1 vs with
    | none => rw [q] at h; exact h.elim
    | some as =>
      rw [q] at h
      dsimp only at h
      obtain ⟨Hb2, p2, b2, k2⟩ := RVs.keep p1 r1
      have en := p2.st.enter nd k2 q
      refine ⟨by rw [r1.length, hn], as, Hb2, en.1, ?_⟩
      cases q3 : ce.fn f as with
      | no => rw [q3] at h; exact h
      | rz xd as' =>
        rw [q3] at h
        intro cls d Hb' H' vp I' ak rx
        exact h cls d Hb' H' (p2.trans (p2.st.leave nd k2 q vp I' ak)) rx
      | ok r as' =>
        rw [q3] at h
        intro x Hb' H' vp I' ak rv
        have pk := p2.st.leave nd k2 q vp I' ak
        refine h x Hb' H' (p2.trans pk) ?_
        cases r with
        | p d => exact rv
        | fr c =>
          obtain ⟨a, rfl, h0, hb, ro, no⟩ := rv
          exact ⟨a, rfl, p2.vp.t a h0, hb, ro, fun z => not_ow p2.st h0 (pk.ek.ow z)⟩
  · rw [if_neg nd] at h; exact h.elim
theorem run_fnR {rp : Bool} {X : Cx} {CX : CXT} {k : Nat} {f : Addr} {fd : FuncData} {ps : List Str} {sp : Sp} {E : L2.St → XK} {pins : List (Addr × Obj)} {σ : L2.St} {H : Hp} {s : Shared} {Q : VK} {us : List Value} {vs : List V} (F : FnR rp X.prog X.w X.K X.mg X.base CX k f fd ps sp) (hgd : rp = true → X.A.guards = some []) (hr : Room k X.A) (hb : Binds X.K fd ps []) (hx : PassesAt CX X σ (E σ))
    (I : Inv X pins σ H s) (r : Vals vs us) (h : sp vs H Q (E σ)) : wpAny (model X.prog X.w) X.A (call (.ref f) us) (EP X pins σ Q) X.xe s := by
  have hl : us.length = ps.length := by rw [← r.length]; exact F.len _ _ _ _ h
  have hbd := hb s us I.kIn (by simpa using hl)
  rw [List.append_nil] at hbd
  refine wpAny_call (codeAny_mono (F.run X.A X.stack s H ⟨us, []⟩ us vs Q (E σ) hgd hr I.env0 hbd r h) fun r s' hq => ?_)
  cases r with
  | error e => exact hx pins H s e s' I hq
  | ok fl =>
    cases fl with
    | ret u => exact I.after hq
    | next => exact False.elim hq
    | brk => exact False.elim hq
    | cont => exact False.elim hq
theorem pe_callR {rp : Bool} {X : Cx} {CX : CXT} {k : Nat} {f : Addr} {fd : FuncData} {ps : List Str} {sp : Sp} {E : L2.St → XK} {x : Str} {p pos : Pos} {e : Expr} {es : List Expr} {t : TA} (F : FnR rp X.prog X.w X.K X.mg X.base CX k f fd ps sp) (hgd : rp = true → X.A.guards = some []) (hr : Room k X.A) (hg : Gl X x) (hm : X.mg x = some (.ref f)) (hk : PySem.W.keepIn X.K (.ref f) = true) (hb : Binds X.K fd ps []) (hx : ∀ σ, PassesAt CX X σ (E σ))
    (ha : PA X (e :: es) t) (hdb : (x == ("__debug__" : Str)) = false) (he : starEach (e :: es) X.env = (false, eval e X.env) :: starEach es X.env) (hpl : (backTo pos (starEach es X.env)).any (·.1) = false) :
    PE X (.Call (.Name x p) (e :: es) [] pos) (tCallSD sp [] E t) := by
  refine ⟨fun pins s σ H Q I h => ?_⟩
  refine wpAny_Call_Name_kw (ld_glob I hg hm ?_ hdb)
  refine PySem.W.callWith_K (h₀ := X.base) I.ok.mod.kin hk (thn (ha.run pos pins s σ H _ I h) fun us s1 ⟨vs, H1, I1, r, q⟩ => ⟨I1.kIn, ?_⟩) he hpl
  have q' : sp vs H1 Q (E σ) := by
    have q0 : sp (vs ++ []) H1 Q (E σ) := q
    rw [List.append_nil] at q0
    exact q0
  exact run_fnR F hgd hr hb (hx σ) I1 r q'
/-- a def called by its name -/
theorem se_call {f : Nat} {k : Nat} {addr : Addr} {fd : FuncData} {ps : List Str} {a : Expr} {es : List Expr} {ts : List T} {x : Str} {p pos : Pos} (G : Good g kk X W) (hF : FnR g.rp X.prog X.w X.K X.mg X.base (L2.CX X.prog X.w) k addr fd ps (spD g ps.length (ce.fn f)))
    (hk : k + 1 ≤ kk) (hg : Gl X x) (hm : X.mg x = some (.ref addr)) (hkeep : PySem.W.keepIn X.K (.ref addr) = true) (hb : Binds X.K fd ps []) (hdb : (x == ("__debug__" : Str)) = false) (hn : ts.length = ps.length) (hs : (a :: es).all noStar = true) (ha : SA g X W (a :: es) (evs ce ts)) :
    SE g X W (.Call (.Name x p) (a :: es) [] pos) (ev ce (.call f ts)) := by
  intro e σ Hb H Q I h
  rw [ev] at h
  rw [List.all_cons, Bool.and_eq_true] at hs
  refine tW_of (pe_callR hF G.gd ((G.rm (by omega)).mono (show k ≤ kk - 1 by omega)) hg hm hkeep hb (fun σ => passAt G.tk σ) (pa_W X _) hdb (star1 hs.1 es X.env) (plain_es hs.2)) ?_
  refine ha e σ Hb H _ I ?_
  cases q1 : evs ce ts e with
  | no => rw [q1] at h; exact h
  | rz xd e1 => rw [q1] at h; exact h
  | ok vs e1 =>
    rw [q1] at h
    intro xs Hb1 H1 p1 r1
    rw [List.append_nil]
    exact call_go (by rw [evs_len q1, hn]) p1 r1 h
/-- .. without arguments -/
theorem se_call0 {f : Nat} {k : Nat} {addr : Addr} {fd : FuncData} {x : Str} {p pos : Pos} (G : Good g kk X W) (hF : FnR g.rp X.prog X.w X.K X.mg X.base (L2.CX X.prog X.w) k addr fd [] (spD g 0 (ce.fn f)))
    (hk : k + 1 ≤ kk) (hg : Gl X x) (hm : X.mg x = some (.ref addr)) (hkeep : PySem.W.keepIn X.K (.ref addr) = true) (hb : Binds X.K fd [] []) (hdb : (x == ("__debug__" : Str)) = false) :
    SE g X W (.Call (.Name x p) [] [] pos) (ev ce (.call f [])) := by
  intro e σ Hb H Q I h
  rw [ev] at h
  simp only [evs, R.bind_ok] at h
  intro pins s J
  refine wpAny_Call_Name_kw (ld_glob J hg hm ?_ hdb)
  refine PySem.W.callWith_K0 J.kIn hkeep (run_fnR (us := []) (vs := []) (E := WE W) hF G.gd ((G.rm (by omega)).mono (show k ≤ kk - 1 by omega)) hb (passAt G.tk σ) J .nil ?_)
  exact call_go (vs := []) (xs := []) rfl (.refl I) rfl h
end
end Vd
/-! Vd11b: calls with keywords. -/
namespace Vd
open PySem PySem.Spec PyProof.Rows L2
section
variable {g : Gx} {kk : Nat} {X : Cx} {W : WX} {ce : CE}
/-- i arguments by place, the rest by name in the parameters' order -/
def KB (K : PySem.W.Frag) (fd : FuncData) (ps : List Str) (i : Nat) : Prop :=
  ∀ (s : Shared) (us ws : List Value), K.In s.heap → us.length = i → ws.length = ps.length - i → BindsTo s fd ⟨us, (ps.drop i).zip ws⟩ (ps.zip (us ++ ws))
theorem kb_of {K : PySem.W.Frag} {x qual : Str} {st : Stmt} {f : Addr} {fd : FuncData} {ps : List Str} {i : Nat} (F : Fun K x qual st f fd)
    (h : ∀ (kV doc pm : Value) (an : Option Addr) (cdv ct : Value) (us ws : List Value), us.length = i → ws.length = ps.length - i → bindArgs (PySem.W.fnOf x qual (defArgs st) (defBody st) (defScope st) .none kV doc pm an cdv ct) ⟨us, (ps.drop i).zip ws⟩ = pure (ps.zip (us ++ ws))) : KB K fd ps i := by
  obtain ⟨oc, od, kV, doc, pm, an, cdv, ct, osl, rfl, lk, hcd⟩ := F.ex
  exact fun s us ws _ h1 h2 => .of_eq (h kV doc pm an cdv ct us ws h1 h2)
def tWK (X : Cx) (kws : List Keyword) : TA := fun σ H Q => ∀ (pos : Pos) pins s, Inv X pins σ H s → wpAny (model X.prog X.w) X.A (evalAll ((backToKw pos (keywordEach kws X.env)).map (·.2))) (AP X pins σ Q) X.xe s
theorem pk_W (X : Cx) (kws : List Keyword) : L2.PK X kws (tWK X kws) := ⟨fun pos pins s _ _ _ I h => h pos pins s I⟩
theorem tWK_of {X : Cx} {kws : List Keyword} {t : TA} (h : L2.PK X kws t) {σ : L2.St} {H : Hp} {Q : List V → Hp → Prop} (q : t σ H Q) : tWK X kws σ H Q := fun pos pins s I => h.run pos pins s σ H Q I q
def SKw (g : Gx) (X : Cx) (W : WX) (kws : List Keyword) (m : VE → R (List Val)) : Prop := ∀ e σ Hb H (Q : List V → Hp → Prop), VS g Hb e σ H → CA (PL g σ) g W σ Hb H e (m e) Q → tWK X kws σ H Q
/-- all of them, each by itself -/
def SEs (g : Gx) (X : Cx) (W : WX) (ce : CE) : List Expr → List T → Prop
  | [], [] => True
  | a :: es, t :: ts => noStar a = true ∧ SE g X W a (ev ce t) ∧ SEs g X W ce es ts
  | _, _ => False
theorem sk_nil : SKw g X W [] (evs ce []) := by
  intro e σ Hb H Q I h
  refine tWK_of pk_nil ?_
  unfold evs at h
  exact h [] Hb H (.refl I) rfl
theorem sk_cons {nm : Option Str} {kpos : Pos} {a : Expr} {kws : List Keyword} {ta : T} {ts : List T} (ha : SE g X W a (ev ce ta)) (hr : SKw g X W kws (evs ce ts)) : SKw g X W (⟨nm, a, kpos⟩ :: kws) (evs ce (ta :: ts)) := by
  intro e σ Hb H Q I h
  refine tWK_of (pk_cons (pe_W X a) (pk_W X kws)) ?_
  rw [evs] at h
  refine ha e σ Hb H _ I ?_
  cases q1 : ev ce ta e with
  | ok v1 e1 =>
    rw [q1] at h
    intro x1 Hb1 H1 p1 r1
    refine hr e1 σ Hb1 H1 _ p1.st ?_
    dsimp only [R.bind] at h
    cases q2 : evs ce ts e1 with
    | ok v2 e2 =>
      rw [q2] at h
      intro x2 Hb2 H2 p2 r2
      exact h (x1 :: x2) Hb2 H2 (p1.trans p2) (RVs.cons r1 p2 p1.vp.t r2)
    | rz xd e2 =>
      rw [q2] at h
      exact fun cls d Hb' H' p2 rx => h cls d Hb' H' (p1.trans p2) rx
    | no => rw [q2] at h; exact h
  | rz xd e1 => rw [q1] at h; exact h
  | no => rw [q1] at h; exact h
theorem sk_of : ∀ {kws : List Keyword} {ts : List T}, SEs g X W ce (kws.map (·.value)) ts → SKw g X W kws (evs ce ts)
  | [], [], _ => sk_nil
  | [], _ :: _, h => h.elim
  | _ :: _, [], h => h.elim
  | ⟨nm, a, p⟩ :: kws, t :: ts, h => sk_cons h.2.1 (sk_of h.2.2)
/-- those by place, then those by name -/
def tWAK (X : Cx) (es : List Expr) (kws : List Keyword) : TA := fun σ H Q => ∀ (pos : Pos) pins s, Inv X pins σ H s → wpAny (model X.prog X.w) X.A (spliced (backTo pos (starEach es X.env))) (fun us s1 => wpAny (model X.prog X.w) X.A (evalAll ((backToKw pos (keywordEach kws X.env)).map (·.2))) (fun ws s2 => us.length = es.length ∧ AP X pins σ Q (us ++ ws) s2) X.xe s1) X.xe s
def SAK (g : Gx) (X : Cx) (W : WX) (es : List Expr) (kws : List Keyword) (m : VE → R (List Val)) : Prop := ∀ e σ Hb H (Q : List V → Hp → Prop), VS g Hb e σ H → CA (PL g σ) g W σ Hb H e (m e) Q → tWAK X es kws σ H Q
theorem sak_nil {kws : List Keyword} {m : VE → R (List Val)} (h : SKw g X W kws m) : SAK g X W [] kws m := by
  intro e σ Hb H Q I k pos pins s J
  exact Calls.spliced_nil (thn (h e σ Hb H Q I k pos pins s J) fun ws s2 q => ⟨rfl, q⟩)
theorem sak_cons {a : Expr} {es : List Expr} {kws : List Keyword} {ta : T} {ts : List T} (ha : SE g X W a (ev ce ta)) (hr : SAK g X W es kws (evs ce ts)) (hs : starEach (a :: es) X.env = (false, eval a X.env) :: starEach es X.env) : SAK g X W (a :: es) kws (evs ce (ta :: ts)) := by
  intro e σ Hb H Q I h
  have key : tW X a σ H (fun x H1 => tWAK X es kws σ H1 fun xs H2 => Q (x :: xs) H2) := by
    rw [evs] at h
    refine ha e σ Hb H _ I ?_
    cases q1 : ev ce ta e with
    | ok v1 e1 =>
      rw [q1] at h
      intro x1 Hb1 H1 p1 r1
      refine hr e1 σ Hb1 H1 _ p1.st ?_
      dsimp only [R.bind] at h
      cases q2 : evs ce ts e1 with
      | ok v2 e2 =>
        rw [q2] at h
        intro x2 Hb2 H2 p2 r2
        exact h (x1 :: x2) Hb2 H2 (p1.trans p2) (RVs.cons r1 p2 p1.vp.t r2)
      | rz xd e2 =>
        rw [q2] at h
        exact fun cls d Hb' H' p2 rx => h cls d Hb' H' (p1.trans p2) rx
      | no => rw [q2] at h; exact h
    | rz xd e1 => rw [q1] at h; exact h
    | no => rw [q1] at h; exact h
  intro pos pins s J
  rw [hs]
  show wpAny _ _ (spliced ((false, eval a X.env) :: backTo pos (starEach es X.env))) _ _ s
  refine Calls.spliced_cons (thn (key pins s J) fun u s1 ⟨x, H1, I1, r1, q1⟩ => ?_)
  refine thn (q1 pos pins s1 I1) fun us s2 q2 => ?_
  refine thn q2 fun ws s3 ⟨hl, xs, H2, I2, r2, q3⟩ => ⟨by simp [hl], x :: xs, H2, I2, .cons r1 r2, q3⟩
theorem sak_of : ∀ {es : List Expr} {kws : List Keyword} {ts : List T}, SEs g X W ce (es ++ kws.map (·.value)) ts → SAK g X W es kws (evs ce ts)
  | [], kws, ts, h => sak_nil (sk_of h)
  | _ :: _, _, [], h => h.elim
  | a :: es, kws, t :: ts, h => sak_cons h.2.1 (sak_of h.2.2) (star1 h.1 es X.env)
theorem ses_star : ∀ {es es2 : List Expr} {ts : List T}, SEs g X W ce (es ++ es2) ts → es.all noStar = true
  | [], _, _, _ => rfl
  | _ :: _, _, [], h => h.elim
  | a :: es, _, t :: ts, h => by
    rw [List.all_cons, h.1, ses_star h.2.2]; rfl
theorem ses_len : ∀ {es : List Expr} {ts : List T}, SEs g X W ce es ts → es.length = ts.length
  | [], [], _ => rfl
  | [], _ :: _, h => h.elim
  | _ :: _, [], h => h.elim
  | a :: es, t :: ts, h => by simp [ses_len h.2.2]
theorem kw_all {pos : Pos} : ∀ {kws : List Keyword} {ns : List Str}, kws.map (·.arg) = ns.map some → (backToKw pos (keywordEach kws X.env)).all (·.1.isSome) = true ∧ (backToKw pos (keywordEach kws X.env)).filterMap (·.1) = ns ∧ (backToKw pos (keywordEach kws X.env)).any (·.1.isNone) = false
  | [], [], _ => ⟨rfl, rfl, rfl⟩
  | [], _ :: _, h => by simp at h
  | _ :: _, [], h => by simp at h
  | ⟨nm, a, p⟩ :: kws, n :: ns, h => by
    simp only [List.map_cons, List.cons.injEq] at h
    obtain ⟨rfl, h⟩ := h
    obtain ⟨h1, h2, h3⟩ := kw_all (pos := pos) h
    refine ⟨?_, ?_, ?_⟩
    · show (true && _) = true; exact h1
    · show n :: _ = n :: ns; exact congrArg _ h2
    · show (false || _) = false; exact h3
theorem se_callK {f : Nat} {k : Nat} {addr : Addr} {fd : FuncData} {ps : List Str} {es : List Expr} {kws : List Keyword} {ts : List T} {x : Str} {p pos : Pos} (G : Good g kk X W) (hF : FnR g.rp X.prog X.w X.K X.mg X.base (L2.CX X.prog X.w) k addr fd ps (spD g ps.length (ce.fn f)))
    (hk : k + 1 ≤ kk) (hg : Gl X x) (hm : X.mg x = some (.ref addr)) (hkeep : PySem.W.keepIn X.K (.ref addr) = true) (hb : KB X.K fd ps es.length) (hdb : (x == ("__debug__" : Str)) = false) (hn : ts.length = ps.length) (hkw : kws.map (·.arg) = (ps.drop es.length).map some) (ha : SEs g X W ce (es ++ kws.map (·.value)) ts) :
    SE g X W (.Call (.Name x p) es kws pos) (ev ce (.call f ts)) := by
  intro e σ Hb H Q I h
  rw [ev] at h
  have ca : CA (PL g σ) g W σ Hb H e (evs ce ts e) fun vs H1 => spD g ps.length (ce.fn f) vs H1 Q (WE W σ) := by
    cases q1 : evs ce ts e with
    | no => rw [q1] at h; exact h
    | rz xd e1 => rw [q1] at h; exact h
    | ok vs e1 =>
      rw [q1] at h
      intro xs Hb1 H1 p1 r1
      exact call_go (by rw [evs_len q1, hn]) p1 r1 h
  have hes := ses_star ha
  have hle : (kws.map (·.arg)).length = ps.length - es.length := by rw [hkw]; simp
  obtain ⟨k1, k2, k3⟩ := kw_all (X := X) (pos := pos) hkw
  intro pins s J
  refine wpAny_Call_Name_kw (ld_glob J hg hm ?_ hdb)
  have fin : ∀ (us ws : List Value) (s2 : Shared), us.length = es.length ∧ AP X pins σ (fun vs H1 => spD g ps.length (ce.fn f) vs H1 Q (WE W σ)) (us ++ ws) s2 → X.K.In s2.heap ∧ wpAny (model X.prog X.w) X.A (call (.ref addr) us (((backToKw pos (keywordEach kws X.env)).filterMap (·.1)).zip ws)) (EP X pins σ Q) X.xe s2 := by
    rintro us ws s2 ⟨hl, xs, H2, I2, r2, q⟩
    refine ⟨I2.kIn, ?_⟩
    rw [k2]
    have hl2 : (us ++ ws).length = ps.length := by rw [← r2.length]; exact hF.len _ _ _ _ q
    have hw : ws.length = ps.length - es.length := by rw [List.length_append] at hl2; omega
    refine wpAny_call (codeAny_mono (hF.run X.A X.stack s2 H2 ⟨us, (ps.drop es.length).zip ws⟩ (us ++ ws) xs Q (WE W σ) G.gd ((G.rm (by omega)).mono (show k ≤ kk - 1 by omega)) I2.env0 (hb s2 us ws I2.kIn hl hw) r2 q) fun r s' hq => ?_)
    cases r with
    | error er => exact passAt G.tk σ pins H2 s2 er s' I2 hq
    | ok fl =>
      cases fl with
      | ret u => exact I2.after hq
      | next => exact False.elim hq
      | brk => exact False.elim hq
      | cont => exact False.elim hq
  cases es with
  | nil => exact PySem.W.callWith_KW0 (h₀ := X.base) J.ok.mod.kin hkeep k1 (thn (sk_of ha e σ Hb H _ I ca pos pins s J) fun ws s2 q2 => fin [] ws s2 ⟨rfl, q2⟩) (by rw [k3]; rfl)
  | cons a es =>
    have hes0 := hes
    rw [List.all_cons, Bool.and_eq_true] at hes
    exact PySem.W.callWith_KW (h₀ := X.base) J.ok.mod.kin hkeep k1 (thn (sak_of ha e σ Hb H _ I ca pos pins s J) fun us s1 q => thn q fun ws s2 q2 => fin us ws s2 q2) (by rw [k3, plain_es hes0]; rfl) (star1 hes.1 es X.env)
end
end Vd
/-! Vd12: what is walked by for and in comprehensions. -/
namespace Vd
open PySem PySem.Spec PyProof.Rows L2

/-! ### enumerate of a tuple -/
theorem meets_enum1 {v : Value} {o : Obj} {P : Heap → Prop} (B : Begins v o P) :
    Meets (Builtin.«enumerate.__new__» ⟨[.type "enumerate", v], []⟩) (fun _ R s => P s.heap ∧
      R (.ok (.ret (.ref (s.heap.push o).objs.size))) { s with heap := (s.heap.push o).push { cls := .type "enumerate", data := .fields #[.none, .bool false, .ref s.heap.objs.size, rawInt 0, .none, .none] } }) :=
  .of_wp fun prog w A R s h => by
    obtain ⟨hp, g, d, tk, os⟩ := s
    obtain ⟨h1, h⟩ := h
    have hsub := sub_enumerate
    have q1 : ∀ {A' : Around} {E : Value → Shared → Prop} {Q : Value → Shared → Prop}, Q (.ref hp.objs.size) ⟨hp.push o, g, d, tk, os⟩ → wpAny (model prog w) A' (pyIter v) Q E ⟨hp, g, d, tk, os⟩ :=
      fun q => B.iter prog w _ _ ⟨hp, g, d, tk, os⟩ _ h1 q
    wp_walk using q1
    refine wpAny_stack_any fun st => wpAny_pure ?_
    split
    · rename_i c _ _ _ _ _
      cases (c == Value.type "enumerate") <;> (wp_walk using q1; exact ⟨_, rfl, h⟩)
    · wp_walk using q1
      exact ⟨_, rfl, h⟩
theorem enum_call1 {prog : Program} {w : World} {A : Around} {E : Value → Shared → Prop} {s : Shared} {v : Value} {o : Obj} {P : Heap → Prop} {Q : Value → Shared → Prop} (B : Begins v o P) (h1 : P s.heap)
    (h : ∀ h', IsEnum h' (s.heap.objs.size + 1) s.heap.objs.size 0 .none → h'.get? s.heap.objs.size = some o → (∀ b o, s.heap.get? b = some o → h'.get? b = some o) → Q (.ref (s.heap.objs.size + 1)) { s with heap := h' }) :
    wpAny (model prog w) A (call (.type "enumerate") [v]) Q E s := by
  refine callType_new F.called_enumerate (by decide) (F.typeCall_enumerate_1 _) (F.newCall_enumerate_1 _) (fun obj => F.args_object_init_2 obj _) F.entry_enumerate_new (meets_enum1 B) ⟨h1, ?_⟩
  have hz : (s.heap.push o).objs.size = s.heap.objs.size + 1 := Heap.size_push ..
  show _ ∧ _
  rw [hz]
  have he : IsEnum ((s.heap.push o).push { cls := .type "enumerate", data := .fields #[.none, .bool false, .ref s.heap.objs.size, rawInt 0, .none, .none] }) (s.heap.objs.size + 1) s.heap.objs.size 0 .none := by
    have z := Heap.get?_push_size (s.heap.push o) (o := { cls := .type "enumerate", data := .fields #[.none, .bool false, .ref s.heap.objs.size, rawInt 0, .none, .none] }) rfl
    rw [hz] at z; exact z
  exact ⟨⟨_, he, rfl⟩, h _ he (Heap.get?_push_of_some _ (Heap.get?_push_size _ B.free)) fun b o x => Heap.get?_push_of_some _ (Heap.get?_push_of_some _ x)⟩
/-- the tuple at a, each item in a new pair -/
def Iet (K : PySem.W.Frag) (a : Addr) : It :=
  ⟨fun i H => ∃ (xs : List V) (x : V), SqT K H a xs ∧ xs[i]? = some x, fun i H v H' => ∃ T x, v = .ref T ∧ H T = none ∧ H' = upd H T (.tup [.int (i : Nat), x]) ∧ ∀ xs, SqT K H a xs → xs[i]? = some x, fun i H => ∃ xs : List V, SqT K H a xs ∧ xs.length ≤ i⟩
theorem turn_enumT {P : Program} {w : World} {K : PySem.W.Frag} {elts : List Expr} {kk : Nat} {tpos : Pos} (a e it : Addr) :
    Turn P w K (.Tuple elts kk tpos) (Iet K a) [e, it] e (fun i h => (∃ old, IsEnum h e it ((i : Nat) : Int) old) ∧ h.IsTupleIter it a i ∧ e ≠ it ∧ a ≠ it ∧ a ≠ e) where
  mem := by simp
  obj := fun i h st b hb => by
    obtain ⟨⟨old, he⟩, ⟨o, ho, hc, hd⟩, _⟩ := st
    rcases (show b = e ∨ b = it by simpa using hb) with z | z
    · rw [z]; exact ⟨_, he, fun v q => nomatch q⟩
    · rw [z]; exact ⟨o, ho, fun v q => by rw [hd] at q; cases q⟩
  keep := fun i h h' st k => let ⟨⟨old, he⟩, hi, hne⟩ := st; ⟨⟨old, k e (by simp) _ he⟩, hi.at fun o q => k it (by simp) o q, hne⟩
  item := by
    intro X hP hw hK hc i pins s σ H E I hf st hg
    subst hP hw hK
    obtain ⟨⟨old, he⟩, hit, hne, hai, hae⟩ := st
    obtain ⟨xs, x, hq, hx⟩ := hg
    obtain ⟨its, rv, p, hz⟩ := I.tuple hq
    obtain ⟨u, hu, ru⟩ := rv.get hx
    have hel : e < s.heap.objs.size := Heap.lt_size he
    have hil : it < s.heap.objs.size := by obtain ⟨_, q, _⟩ := hit; exact Heap.lt_size q
    have hh : X.A.handled = none := I.ok.hd hc
    have D := Draws.tuple (prog := X.prog) (w := X.w) (A := X.A.in1) hh it a hai its.toArray
    have hi : i < its.toArray.size := by
      have := (List.getElem?_eq_some_iff.mp hu).1
      simpa using this
    refine wpAny_pyNext_enum_itemD D he ⟨hit, p⟩ hi hne (by simp [hne, Ne.symm hae]) fun y h' tk hy ho st' hT hsz hk => ?_
    have ey : y = u := by
      have : its.toArray[i]? = some u := by simpa using hu
      rw [this] at hy; exact (Option.some.inj hy).symm
    subst ey
    refine ⟨_, rfl, wpAny_letOwnedTupleGo_enum (s := { s with heap := h', toks := tk + 1 }) ho fun h'' he' sb => ?_⟩
    have hT2 : h''.get? s.heap.objs.size = some { cls := .type "tuple", data := .seq #[.int i tk, y] } := (sb.2 _ (Nat.ne_of_gt hel)).trans hT
    have new : ObjOk X.prog X.w (upd H s.heap.objs.size (.tup [.int (i : Nat), x])) h'' s.heap.objs.size (.tup [.int (i : Nat), x]) :=
      ⟨by show 2 ≤ sizeLine; decide, [.int i tk, y], .cons ⟨_, rfl⟩ (.cons ru .nil), ⟨_, hT2, rfl, _, rfl⟩⟩
    have I1 : Inv X pins σ (upd H s.heap.objs.size (.tup [.int (i : Nat), x])) { s with heap := h'', toks := tk + 1 } :=
      I.turnedNew (ch := [e, it]) (fun b ob hb q => (sb.2 b (fun z => hb (by simp [z]))).trans (hk b ob (fun z => hb (by simp [z])) (fun z => hb (by simp [z])) q)) hf (Nat.le_refl _) new
    refine ⟨.ref s.heap.objs.size, _, I1, rfl, ⟨_, x, rfl, I.hok.fresh (Nat.le_refl _), rfl, fun ys hy => by rw [I.tuple_inj hy hq]; exact hx⟩, ⟨⟨y, ?_⟩, st'.1.at fun o q => (sb.2 it (Ne.symm hne)).trans q, hne, hai, hae⟩, fun b hb => ?_⟩
    · rw [show ((i + 1 : Nat) : Int) = (i : Int) + 1 by omega]; exact he'
    · have hb' : b < s.heap.objs.size := by
        rcases (show b = e ∨ b = it by simpa using hb) with z | z
        · rw [z]; exact hel
        · rw [z]; exact hil
      rw [upd_ne (Nat.ne_of_lt hb')]
      exact (hf b hb).1
  done := by
    intro X hP hw hK hc i pins s σ H E I hf st hg
    subst hP hw hK
    obtain ⟨⟨old, he⟩, hit, hne, hai, hae⟩ := st
    obtain ⟨xs, hq, hx⟩ := hg
    obtain ⟨its, rv, p, hz⟩ := I.tuple hq
    obtain ⟨f0, f1, f2, f3, f4, f5⟩ := hf it (by simp)
    have hl := rv.length
    have hh : X.A.handled = none := I.ok.hd hc
    have hz : its.toArray[i]? = none := by simp; omega
    have hT : s.TypeIs (.ref e) "enumerate" := ⟨_, he, rfl⟩
    unfold pyNext
    refine wpAny_bind (wpAny_attempt (wpAny_callSpecial?_slot (name := Str.ofString "__next__") hT F.slot_enumerate_next
      (wpAny_call_entry F.slot_enumerate_next hT F.entry_enumerate_next ?_ (F.args_enumerate_next_1 _))))
    show wpAny _ _ (field (.ref e) 2 >>= _) _ _ _
    refine wpAny_bind (wpAny_field he rfl (x := .ref it) rfl ?_)
    refine wpAny_bind (wpAny_nextOf_tuple_end (A := X.A.in1) hh hit p hz fun h' x he' hx' => ?_)
    obtain ⟨o, ho, hcl⟩ := hx'
    refine wpAny_bind (wpAny_isInstance (T := "StopIteration") (b := true) ⟨o, ho, hcl⟩ isSubtype_stop ?_)
    exact wpAny_pure ⟨rfl, I.turned (t' := s.toks) (fun b o hb q => he' b o hb q) f0 f1 f3 f4 f5⟩
  self := fun A i s Q E st h => let ⟨⟨_, he⟩, _⟩ := st; wpAny_pyIter_enum he h
def iEnumT (K : PySem.W.Frag) (ta : TA) : TI := fun σ H R => ta σ H fun vs H1 => ∃ a xs, vs = [.ref a] ∧ SqT K H1 a xs ∧ R (Iet K a) H1
theorem pi_enumT {X : Cx} {e : Expr} {ta : TA} {p pos tpos : Pos} {elts : List Expr} {kk : Nat} (hg : Gl X "enumerate") (hm : X.mg "enumerate" = none) (ha : PA X [e] ta) (hs : starEach [e] X.env = [(false, eval e X.env)]) :
    PI X (.Tuple elts kk tpos) (.Call (.Name "enumerate" p) [e] [] pos) (iEnumT X.K ta) := by
  refine ⟨fun pins s σ H R I h => Call_ (ld_blt I hg hm boot_enumerate (callWith_type1 (thn (ha.run pos pins s σ H _ I h) fun us s1 ⟨vs, H1, I1, r1, a, xs, ex, hq, q⟩ => ?_) hs rfl))⟩
  subst ex
  cases r1 with
  | cons r rr =>
    cases rr
    cases r
    obtain ⟨its, rv, p', hz⟩ := I1.tuple hq
    have hal : a < s1.heap.objs.size := by obtain ⟨_, q, _⟩ := p'; exact Heap.lt_size q
    refine enum_call1 (begins_tuple a its.toArray) p' fun h' he hit hk => wpAny_pyIter_enum he ?_
    have I2 : Inv X pins σ H1 { s1 with heap := h' } := I1.kept (t' := s1.toks) hk
    refine ⟨s1.heap.objs.size + 1, [s1.heap.objs.size + 1, s1.heap.objs.size], _, _, H1, rfl, I2, turn_enumT a (s1.heap.objs.size + 1) s1.heap.objs.size, ⟨⟨.none, he⟩, ⟨_, hit, rfl, rfl⟩, Nat.succ_ne_self _, Nat.ne_of_lt hal, Nat.ne_of_lt (Nat.lt_succ_of_lt hal)⟩, fun b hb => ?_, q⟩
    have hle : s1.heap.objs.size ≤ b := by
      rcases (show b = s1.heap.objs.size + 1 ∨ b = s1.heap.objs.size by simpa using hb) with z | z
      · rw [z]; exact Nat.le_add_right _ _
      · rw [z]; exact Nat.le_refl _
    exact I1.fpOk hle (I1.hok.fresh hle)
end Vd
/-! Vd12b: zip of a tuple and a list. -/
namespace Vd
open PySem PySem.Spec PyProof.Rows L2

theorem sep_of {z TI TO i1 i2 a b : Addr} (D : ZipApart z TI TO i1 i2 a b) : ZipSep2 z TI TO i1 i2 [i1, a] [i2, b] :=
  ⟨D.TIz, D.TOz, D.TITO, D.TIi1, by simp, by simp [Ne.symm D.i1z, Ne.symm D.l1z], by simp [D.TOi1, Ne.symm D.l1TO], D.TIi2, by simp, by simp [Ne.symm D.i2z, Ne.symm D.l2z], by simp [D.TOi2, Ne.symm D.l2TO], by simp [D.i12, Ne.symm D.l2i1], by simp [Ne.symm D.i12, Ne.symm D.l1i2]⟩
/-- the tuple at a and the list at b, their items in new pairs -/
def Izm (K : PySem.W.Frag) (a b : Addr) : It where
  go := fun i H => ∃ (l m : List V) (u v : V), SqT K H a l ∧ SqL K H b m ∧ l[i]? = some u ∧ m[i]? = some v
  yld := fun i H r H' => ∃ N u v, r = .ref N ∧ H N = none ∧ H' = upd H N (.tup [u, v]) ∧ (∀ l, SqT K H a l → l[i]? = some u) ∧ ∀ m, SqL K H b m → m[i]? = some v
  stop := fun i H => ∃ l m : List V, SqT K H a l ∧ SqL K H b m ∧ i = min l.length m.length
theorem five {z TI TO i1 i2 c : Addr} (h : c ∈ [z, TI, TO, i1, i2]) : c = z ∨ c = TI ∨ c = TO ∨ c = i1 ∨ c = i2 := by simpa using h
theorem turn_zipM {P : Program} {w : World} {K : PySem.W.Frag} {elts : List Expr} {kk : Nat} {tpos : Pos} {a b z TI TO i1 i2 : Addr} (D : ZipApart z TI TO i1 i2 a b) :
    Turn P w K (.Tuple elts kk tpos) (Izm K a b) [z, TI, TO, i1, i2] z (fun i h => IsZip h z TI TO .none ∧ IsTupOf2 h TI (.ref i1) (.ref i2) ∧ (∃ p q, IsTupOf2 h TO p q) ∧ h.IsTupleIter i1 a i ∧ h.IsListIter i2 b i) where
  mem := by simp
  obj := fun i h st c hc => by
    obtain ⟨hz, hTI, ⟨p, q, hTO⟩, ⟨o1, e1, _, d1⟩, ⟨o2, e2, _, d2⟩⟩ := st
    rcases five hc with n | n | n | n | n <;> rw [n]
    · exact ⟨_, hz, fun v q => nomatch q⟩
    · exact ⟨_, hTI, fun v q => nomatch q⟩
    · exact ⟨_, hTO, fun v q => nomatch q⟩
    · exact ⟨o1, e1, fun v q => by rw [d1] at q; cases q⟩
    · exact ⟨o2, e2, fun v q => by rw [d2] at q; cases q⟩
  keep := fun i h h' st k => by
    obtain ⟨hz, hTI, ⟨p, q, hTO⟩, s1, s2⟩ := st
    exact ⟨k z (by simp) _ hz, k TI (by simp) _ hTI, ⟨p, q, k TO (by simp) _ hTO⟩, s1.at fun o n => k i1 (by simp) o n, s2.at fun o n => k i2 (by simp) o n⟩
  item := by
    intro X hP hw hK hc i pins s σ H E I hf st hg
    subst hP hw hK
    obtain ⟨hz, hTI, ⟨p0, q0, hTO⟩, s1, s2⟩ := st
    obtain ⟨l, m, u, v, ql, qm, hu, hv⟩ := hg
    obtain ⟨vs, rl, pl, _⟩ := I.tuple ql
    obtain ⟨ws, rm, pm, _⟩ := I.list qm
    obtain ⟨uu, eu, ru⟩ := rl.get hu
    obtain ⟨vv, ev, rv⟩ := rm.get hv
    have hn : X.A.handled = none := I.ok.hd hc
    have pl' : s.heap.IsTuple a vs.toArray := pl
    have D1 := Draws.tuple (prog := X.prog) (w := X.w) (A := X.A.in1) hn i1 a D.l1i1 vs.toArray
    have D2 := Draws.list (prog := X.prog) (w := X.w) (A := X.A.in1) hn i2 b D.l2i2 ws.toArray
    have hzl : z < s.heap.objs.size := Heap.lt_size hz
    have L1 : i < vs.toArray.size := by simpa using (List.getElem?_eq_some_iff.mp eu).1
    have L2 : i < ws.toArray.size := by simpa using (List.getElem?_eq_some_iff.mp ev).1
    refine wpAny_pyNext_zipD2_item (sep_of D) D1 D2 hz hTI hTO ⟨s1, pl'⟩ ⟨s2, pm.isList⟩ L1 L2 fun y1 y2 h' tk w1 w2 z' TO' t1 t2 hT hsz hk => ?_
    have w1 : y1 = uu := by
      have : vs.toArray[i]? = some uu := by simpa using eu
      rw [this] at w1; exact (Option.some.inj w1).symm
    have w2 : y2 = vv := by
      have : ws.toArray[i]? = some vv := by simpa using ev
      rw [this] at w2; exact (Option.some.inj w2).symm
    subst w1 w2
    refine ⟨_, rfl, wpAny_letOwnedTupleGo_zip (s := { s with heap := h', toks := tk }) z' fun h'' z'' sb => ?_⟩
    have up : ∀ c o, c ∉ [z, TI, TO, i1, i2] → s.heap.get? c = some o → h''.get? c = some o := fun c o hc n => by
      simp only [List.mem_cons, List.not_mem_nil, or_false, not_or] at hc
      exact (sb.2 c hc.1).trans (hk c o hc.1 hc.2.2.1 hc.2.2.2.1 hc.2.2.2.2 n)
    have hN : h''.get? s.heap.objs.size = some { cls := .type "tuple", data := .seq #[y1, y2] } := (sb.2 _ (Nat.ne_of_gt hzl)).trans hT
    have new : ObjOk X.prog X.w (upd H s.heap.objs.size (.tup [u, v])) h'' s.heap.objs.size (.tup [u, v]) :=
      ⟨by show 2 ≤ sizeLine; decide, [y1, y2], .cons ru (.cons rv .nil), ⟨_, hN, rfl, _, rfl⟩⟩
    have I1 : Inv X pins σ (upd H s.heap.objs.size (.tup [u, v])) { s with heap := h'', toks := tk } :=
      I.turnedNew (ch := [z, TI, TO, i1, i2]) (fun c o hb n => up c o hb n) hf (Nat.le_refl _) new
    refine ⟨.ref s.heap.objs.size, _, I1, rfl, ⟨_, u, v, rfl, I.hok.fresh (Nat.le_refl _), rfl, fun l' hl => by rw [I.tuple_inj hl ql]; exact hu, fun m' hm => ?_⟩, ⟨z'', (sb.2 _ D.TIz).trans (hk _ _ D.TIz D.TITO D.TIi1 D.TIi2 hTI), ⟨y1, y2, (sb.2 _ D.TOz).trans TO'⟩, t1.1.at fun o n => (sb.2 _ D.i1z).trans n, t2.1.at fun o n => (sb.2 _ D.i2z).trans n⟩, fun c hm => ?_⟩
    · rw [I.list_inj hm qm]; exact hv
    · have hlt : c < s.heap.objs.size := by
        rcases five hm with n | n | n | n | n <;> rw [n]
        · exact hzl
        · exact Heap.lt_size hTI
        · exact Heap.lt_size hTO
        · obtain ⟨_, n1, _⟩ := s1; exact Heap.lt_size n1
        · obtain ⟨_, n2, _⟩ := s2; exact Heap.lt_size n2
      rw [upd_ne (Nat.ne_of_lt hlt)]
      exact (hf c hm).1
  done := by
    intro X hP hw hK hc i pins s σ H E I hf st hg
    subst hP hw hK
    obtain ⟨hz, hTI, ⟨p0, q0, hTO⟩, s1, s2⟩ := st
    obtain ⟨l, m, ql, qm, hend⟩ := hg
    obtain ⟨vs, rl, pl, _⟩ := I.tuple ql
    obtain ⟨ws, rm, pm, _⟩ := I.list qm
    have n1 := rl.length
    have n2 := rm.length
    have hn : X.A.handled = none := I.ok.hd hc
    have pl' : s.heap.IsTuple a vs.toArray := pl
    have D1 := Draws.tuple (prog := X.prog) (w := X.w) (A := X.A.in1) hn i1 a D.l1i1 vs.toArray
    have D2 := Draws.list (prog := X.prog) (w := X.w) (A := X.A.in1) hn i2 b D.l2i2 ws.toArray
    refine wpAny_pyNext_zipD2_end (sep_of D) D1 D2 hz hTI hTO ⟨s1, pl'⟩ ⟨s2, pm.isList⟩ (by simp; omega) (by simp; omega) (by simp; omega) fun h' tk hk => ⟨rfl, I.turnedL (t' := tk) (ch := [z, TI, TO, i1, i2]) (fun c o hc n => ?_) hf⟩
    simp only [List.mem_cons, List.not_mem_nil, or_false, not_or] at hc
    exact hk c o hc.1 hc.2.2.1 hc.2.2.2.1 hc.2.2.2.2 n
  self := fun A i s Q E st h => wpAny_pyIter_zip st.1 h
def iZipM (K : PySem.W.Frag) (ta : TA) : TI := fun σ H R => ta σ H fun vs H1 => ∃ a b l m, vs = [.ref a, .ref b] ∧ SqT K H1 a l ∧ SqL K H1 b m ∧ R (Izm K a b) H1
theorem pi_zipM {X : Cx} {e e2 : Expr} {ta : TA} {p pos tpos : Pos} {elts : List Expr} {kk : Nat} (hg : Gl X "zip") (hm : X.mg "zip" = none) (ha : PA X [e, e2] ta)
    (hs : starEach [e, e2] X.env = (false, eval e X.env) :: starEach [e2] X.env) (hpl : (backTo pos (starEach [e2] X.env)).any (·.1) = false) :
    PI X (.Tuple elts kk tpos) (.Call (.Name "zip" p) [e, e2] [] pos) (iZipM X.K ta) := by
  refine ⟨fun pins s σ H R I h => Call_ (ld_blt I hg hm PyProof.Rows.boot_zip (callWith_type1 (thn (ha.run pos pins s σ H _ I h) fun us s1 ⟨vs, H1, I1, r1, a, b, l, m, ex, ql, qm, q⟩ => ?_) hs hpl))⟩
  subst ex
  cases r1 with
  | cons r rr => cases rr with
    | cons r' rr' =>
      cases rr'
      cases r
      cases r'
      obtain ⟨vs, _, pl, _⟩ := I1.tuple ql
      obtain ⟨ws, _, pm, _⟩ := I1.list qm
      have pl' : s1.heap.IsTuple a vs.toArray := pl
      obtain ⟨o1, ho1, _⟩ := id pl'
      refine zip_begins2 (begins_tuple a vs.toArray) (begins_list b ws.toArray) pl' pm.isList fun h' hz hTI hTO t1 t2 hsz hk => wpAny_pyIter_zip hz ?_
      have I2 : Inv X pins σ H1 { s1 with heap := h' } := I1.kept (t' := s1.toks) hk
      refine ⟨s1.heap.objs.size + 4, [s1.heap.objs.size + 4, s1.heap.objs.size + 2, s1.heap.objs.size + 3, s1.heap.objs.size, s1.heap.objs.size + 1], _, _, H1, rfl, I2, turn_zipM (PySem.W.ktu_apart s1.heap.objs.size a b (Heap.lt_size ho1) pm.lt), ⟨hz, hTI, ⟨_, _, hTO⟩, ⟨_, t1, rfl, rfl⟩, ⟨_, t2, rfl, rfl⟩⟩, fun c hc => ?_, q⟩
      have hle : s1.heap.objs.size ≤ c := by rcases five hc with n | n | n | n | n <;> rw [n] <;> first | exact Nat.le_add_right _ _ | exact Nat.le_refl _
      exact I1.fpOk hle (I1.hok.fresh hle)
end Vd
/-! Vd13: iterators, sound. -/
namespace Vd
open PySem PySem.Spec PyProof.Rows L2
section
variable {g : Gx} {kk : Nat} {X : Cx} {W : WX} {ce : CE}
structure JOk (g : Gx) (ds : List D) (xs : List V) (its : List D) (J : It) : Prop where
  go : ∀ (Hb H : Hp) (i : Nat) (d : D), Ex Hb H → RRs g Hb H ds xs → its[i]? = some d → J.go i H ∧ ∀ x H', J.yld i H x H' → (H' = H ∧ Rp g Hb d x) ∨ ∃ p o, H p = none ∧ H' = upd H p o ∧ Rp g (upd Hb p o) d x
  stop : ∀ (Hb H : Hp) (i : Nat), Ex Hb H → RRs g Hb H ds xs → its.length = i → J.stop i H
theorem RRs.of1 {Hb H : Hp} {d : D} {x : V} (h : RRs g Hb H [d] [x]) : RR g Hb H d x := by
  obtain ⟨y, e, r⟩ := h.one
  cases e; exact r
theorem RRs.of2 {Hb H : Hp} {d d' : D} {x y : V} (h : RRs g Hb H [d, d'] [x, y]) : RR g Hb H d x ∧ RR g Hb H d' y := by
  obtain ⟨u, v, e, r, r'⟩ := h.two
  cases e; exact ⟨r, r'⟩
theorem jok_list (hK : X.K = g.K) {l : List D} {a : Addr} : JOk g [.lst l] [.ref a] l (Itl X.K a) where
  go := fun Hb H i d ex h hi => by
    obtain ⟨b, vs, e, h1, h2⟩ := h.of1
    cases e
    have hq : SqL X.K H a vs := by rw [hK]; exact h1
    obtain ⟨v, e1, e2⟩ := h2.get hi
    exact ⟨⟨vs, v, hq, e1⟩, fun x H' ⟨hh, hx⟩ => .inl ⟨hh, by
      have := hx vs hq
      rw [e1] at this; cases this; exact e2⟩⟩
  stop := fun Hb H i ex h hi => by
    have hi := Nat.le_of_eq hi
    obtain ⟨b, vs, e, h1, h2⟩ := h.of1
    cases e
    exact ⟨vs, by rw [hK]; exact h1, by rw [h2.length]; exact hi⟩
theorem jok_tup (hK : X.K = g.K) {l : List D} {a : Addr} : JOk g [.tup l] [.ref a] l (Itt X.K a) where
  go := fun Hb H i d ex h hi => by
    obtain ⟨b, vs, e, h1, h2⟩ := h.of1
    cases e
    have hq : SqT X.K H a vs := by rw [hK]; exact ex.sqt h1
    obtain ⟨v, e1, e2⟩ := h2.get hi
    exact ⟨⟨vs, v, hq, e1⟩, fun x H' ⟨hh, hx⟩ => .inl ⟨hh, by
      have := hx vs hq
      rw [e1] at this; cases this; exact e2⟩⟩
  stop := fun Hb H i ex h hi => by
    have hi := Nat.le_of_eq hi
    obtain ⟨b, vs, e, h1, h2⟩ := h.of1
    cases e
    exact ⟨vs, by rw [hK]; exact ex.sqt h1, by rw [h2.length]; exact hi⟩
theorem jok_str {l : List Nat} {x : V} : JOk g [.str l] [x] (l.map fun c => .str [c]) (Its (sT l)) where
  go := fun Hb H i d ex h hi => by
    have hs : (sT l).cps = l.toArray := rfl
    rw [List.getElem?_map] at hi
    cases q : l[i]? with
    | none => rw [q] at hi; cases hi
    | some c =>
      rw [q] at hi
      cases hi
      have hlt := (List.getElem?_eq_some_iff.mp q).1
      refine ⟨by show i < (sT l).cps.size; rw [hs]; simpa using hlt, fun y H' ⟨hh, c', e1, e2⟩ => .inl ⟨hh, ?_⟩⟩
      rw [hs] at e1
      have : c' = c := by
        have z : l[i]? = some c' := by simpa using e1
        rw [q] at z; exact (Option.some.inj z).symm
      subst this
      exact ⟨e2, by rw [← line_eq]; show 1 ≤ line; decide⟩
  stop := fun Hb H i ex h hi => by
    have hi := Nat.le_of_eq hi
    show (sT l).cps.size ≤ i
    have hs : (sT l).cps = l.toArray := rfl
    rw [hs]; simpa using hi
theorem jok_rng1 {n : Int} {x : V} : JOk g [.int n] [x] ((List.range n.toNat).map fun k => .int (k : Nat)) (Itr 0 n.toNat) where
  go := fun Hb H i d ex h hi => by
    rw [List.getElem?_map] at hi
    cases q : (List.range n.toNat)[i]? with
    | none => rw [q] at hi; cases hi
    | some c =>
      rw [q] at hi
      cases hi
      obtain ⟨h1, h2⟩ := List.getElem?_eq_some_iff.mp q
      rw [List.getElem_range] at h2
      subst h2
      exact ⟨by rw [List.length_range] at h1; exact h1, fun x H' ⟨hh, hx⟩ => .inl ⟨hh, by rw [hx]; show V.int _ = V.int _; congr 1; omega⟩⟩
  stop := fun Hb H i ex h hi => by have hi := Nat.le_of_eq hi; rw [List.length_map, List.length_range] at hi; exact hi
theorem jok_rng2 {a b : Int} {xs : List V} : JOk g [.int a, .int b] xs ((List.range (b - a).toNat).map fun (k : Nat) => .int (a + (k : Int))) (Itr a (b - a).toNat) where
  go := fun Hb H i d ex h hi => by
    rw [List.getElem?_map] at hi
    cases q : (List.range (b - a).toNat)[i]? with
    | none => rw [q] at hi; cases hi
    | some c =>
      rw [q] at hi
      cases hi
      obtain ⟨h1, h2⟩ := List.getElem?_eq_some_iff.mp q
      rw [List.getElem_range] at h2
      subst h2
      exact ⟨by rw [List.length_range] at h1; exact h1, fun x H' ⟨hh, hx⟩ => .inl ⟨hh, by rw [hx]; rfl⟩⟩
  stop := fun Hb H i ex h hi => by have hi := Nat.le_of_eq hi; rw [List.length_map, List.length_range] at hi; exact hi
theorem enumF_get : ∀ (l : List D) (n i : Nat) (d : D), (enumF n l)[i]? = some d → ∃ c, l[i]? = some c ∧ d = .tup [.int ((n + i : Nat) : Int), c]
  | [], n, i, d, h => by simp [enumF] at h
  | c :: l, n, 0, d, h => by
    simp [enumF] at h
    exact ⟨c, rfl, by rw [← h]; rfl⟩
  | c :: l, n, i + 1, d, h => by
    simp [enumF] at h
    obtain ⟨c', e1, e2⟩ := enumF_get l (n + 1) i d h
    exact ⟨c', by simpa using e1, by rw [e2, show n + 1 + i = n + (i + 1) by omega]⟩
theorem enumF_len : ∀ (l : List D) (n : Nat), (enumF n l).length = l.length
  | [], _ => rfl
  | _ :: l, n => by simp [enumF, enumF_len l]
theorem zipF_get : ∀ (l m : List D) (i : Nat) (d : D), (zipF l m)[i]? = some d → ∃ c c', l[i]? = some c ∧ m[i]? = some c' ∧ d = .tup [c, c']
  | [], m, i, d, h => by cases m <;> simp [zipF] at h
  | c :: l, [], i, d, h => by simp [zipF] at h
  | c :: l, c' :: m, 0, d, h => by
    simp [zipF] at h
    exact ⟨c, c', rfl, rfl, h.symm⟩
  | c :: l, c' :: m, i + 1, d, h => by
    simp [zipF] at h
    obtain ⟨a, b, e1, e2, e3⟩ := zipF_get l m i d h
    exact ⟨a, b, by simpa using e1, by simpa using e2, e3⟩
theorem zipF_len : ∀ (l m : List D), (zipF l m).length = min l.length m.length
  | [], m => by cases m <;> simp [zipF]
  | _ :: _, [] => by simp [zipF]
  | _ :: l, _ :: m => by simp [zipF, zipF_len l m]
theorem pair_rp {Hb H : Hp} {T : Addr} {c c' : D} {x y : V} (ex : Ex Hb H) (hT : H T = none) (h1 : Rp g Hb c x) (h2 : Rp g Hb c' y) : Rp g (upd Hb T (.tup [x, y])) (.tup [c, c']) (.ref T) := by
  have hb := ex.back hT
  exact ⟨T, [x, y], rfl, .of upd_same, x, [y], rfl, Rp.mono (.new hb) _ _ h1, y, [], rfl, Rp.mono (.new hb) _ _ h2, rfl⟩
theorem jok_enumL (hK : X.K = g.K) {l : List D} {a : Addr} : JOk g [.lst l] [.ref a] (enumF 0 l) (Ite X.K a) where
  go := fun Hb H i d ex h hi => by
    obtain ⟨b, vs, e, h1, h2⟩ := h.of1
    cases e
    have hq : SqL X.K H a vs := by rw [hK]; exact h1
    obtain ⟨c, e0, rfl⟩ := enumF_get l 0 i d hi
    obtain ⟨v, e1, e2⟩ := h2.get e0
    refine ⟨⟨vs, v, hq, e1⟩, fun x H' ⟨T, y, ex', hT, hH, hy⟩ => .inr ⟨T, _, hT, hH, ?_⟩⟩
    have := hy vs hq
    rw [e1] at this; cases this
    rw [ex']
    exact pair_rp ex hT (by show V.int _ = V.int _; congr 1; omega) e2
  stop := fun Hb H i ex h hi => by
    have hi := Nat.le_of_eq hi
    obtain ⟨b, vs, e, h1, h2⟩ := h.of1
    cases e
    rw [enumF_len] at hi
    exact ⟨vs, by rw [hK]; exact h1, by rw [h2.length]; exact hi⟩
theorem jok_enumT (hK : X.K = g.K) {l : List D} {a : Addr} : JOk g [.tup l] [.ref a] (enumF 0 l) (Iet X.K a) where
  go := fun Hb H i d ex h hi => by
    obtain ⟨b, vs, e, h1, h2⟩ := h.of1
    cases e
    have hq : SqT X.K H a vs := by rw [hK]; exact ex.sqt h1
    obtain ⟨c, e0, rfl⟩ := enumF_get l 0 i d hi
    obtain ⟨v, e1, e2⟩ := h2.get e0
    refine ⟨⟨vs, v, hq, e1⟩, fun x H' ⟨T, y, ex', hT, hH, hy⟩ => .inr ⟨T, _, hT, hH, ?_⟩⟩
    have := hy vs hq
    rw [e1] at this; cases this
    rw [ex']
    exact pair_rp ex hT (by show V.int _ = V.int _; congr 1; omega) e2
  stop := fun Hb H i ex h hi => by
    have hi := Nat.le_of_eq hi
    obtain ⟨b, vs, e, h1, h2⟩ := h.of1
    cases e
    rw [enumF_len] at hi
    exact ⟨vs, by rw [hK]; exact ex.sqt h1, by rw [h2.length]; exact hi⟩
theorem jok_zipL (hK : X.K = g.K) {l m : List D} {a b : Addr} : JOk g [.lst l, .lst m] [.ref a, .ref b] (zipF l m) (Itz X.K a b) where
  go := fun Hb H i d ex h hi => by
    obtain ⟨⟨a', vs, e, h1, h2⟩, ⟨b', ws, e', h1', h2'⟩⟩ := h.of2
    cases e; cases e'
    have hq : SqL X.K H a vs := by rw [hK]; exact h1
    have hq' : SqL X.K H b ws := by rw [hK]; exact h1'
    obtain ⟨c, c', e0, e0', rfl⟩ := zipF_get l m i d hi
    obtain ⟨v, e1, e2⟩ := h2.get e0
    obtain ⟨v', e1', e2'⟩ := h2'.get e0'
    refine ⟨⟨vs, ws, v, v', hq, hq', e1, e1'⟩, fun x H' ⟨T, y, y', ex', hT, hH, hy, hy'⟩ => .inr ⟨T, _, hT, hH, ?_⟩⟩
    have := hy vs hq
    rw [e1] at this; cases this
    have := hy' ws hq'
    rw [e1'] at this; cases this
    rw [ex']
    exact pair_rp ex hT e2 e2'
  stop := fun Hb H i ex h hi => by
    have hi := Nat.le_of_eq hi
    obtain ⟨⟨a', vs, e, h1, h2⟩, ⟨b', ws, e', h1', h2'⟩⟩ := h.of2
    cases e; cases e'
    rw [zipF_len] at hi
    exact ⟨vs, ws, by rw [hK]; exact h1, by rw [hK]; exact h1', by rw [h2.length, h2'.length]; omega⟩
theorem jok_zipT (hK : X.K = g.K) {l m : List D} {a b : Addr} : JOk g [.tup l, .tup m] [.ref a, .ref b] (zipF l m) (RZ.ItzT X.K a b) where
  go := fun Hb H i d ex h hi => by
    obtain ⟨⟨a', vs, e, h1, h2⟩, ⟨b', ws, e', h1', h2'⟩⟩ := h.of2
    cases e; cases e'
    have hq : SqT X.K H a vs := by rw [hK]; exact ex.sqt h1
    have hq' : SqT X.K H b ws := by rw [hK]; exact ex.sqt h1'
    obtain ⟨c, c', e0, e0', rfl⟩ := zipF_get l m i d hi
    obtain ⟨v, e1, e2⟩ := h2.get e0
    obtain ⟨v', e1', e2'⟩ := h2'.get e0'
    refine ⟨⟨vs, ws, v, v', hq, hq', e1, e1'⟩, fun x H' ⟨T, y, y', ex', hT, hH, hy, hy'⟩ => .inr ⟨T, _, hT, hH, ?_⟩⟩
    have := hy vs hq
    rw [e1] at this; cases this
    have := hy' ws hq'
    rw [e1'] at this; cases this
    rw [ex']
    exact pair_rp ex hT e2 e2'
  stop := fun Hb H i ex h hi => by
    have hi := Nat.le_of_eq hi
    obtain ⟨⟨a', vs, e, h1, h2⟩, ⟨b', ws, e', h1', h2'⟩⟩ := h.of2
    cases e; cases e'
    rw [zipF_len] at hi
    exact ⟨vs, ws, by rw [hK]; exact ex.sqt h1, by rw [hK]; exact ex.sqt h1', by rw [h2.length, h2'.length]; omega⟩
theorem jok_zipM (hK : X.K = g.K) {l m : List D} {a b : Addr} : JOk g [.tup l, .lst m] [.ref a, .ref b] (zipF l m) (Izm X.K a b) where
  go := fun Hb H i d ex h hi => by
    obtain ⟨⟨a', vs, e, h1, h2⟩, ⟨b', ws, e', h1', h2'⟩⟩ := h.of2
    cases e; cases e'
    have hq : SqT X.K H a vs := by rw [hK]; exact ex.sqt h1
    have hq' : SqL X.K H b ws := by rw [hK]; exact h1'
    obtain ⟨c, c', e0, e0', rfl⟩ := zipF_get l m i d hi
    obtain ⟨v, e1, e2⟩ := h2.get e0
    obtain ⟨v', e1', e2'⟩ := h2'.get e0'
    refine ⟨⟨vs, ws, v, v', hq, hq', e1, e1'⟩, fun x H' ⟨T, y, y', ex', hT, hH, hy, hy'⟩ => .inr ⟨T, _, hT, hH, ?_⟩⟩
    have := hy vs hq
    rw [e1] at this; cases this
    have := hy' ws hq'
    rw [e1'] at this; cases this
    rw [ex']
    exact pair_rp ex hT e2 e2'
  stop := fun Hb H i ex h hi => by
    obtain ⟨⟨a', vs, e, h1, h2⟩, ⟨b', ws, e', h1', h2'⟩⟩ := h.of2
    cases e; cases e'
    rw [zipF_len] at hi
    exact ⟨vs, ws, by rw [hK]; exact ex.sqt h1, by rw [hK]; exact h1', by rw [h2.length, h2'.length]; omega⟩

/-! ### the iterables at hand -/
def tWI (X : Cx) (tg iter : Expr) : TI := fun σ H R => ∀ pins s, Inv X pins σ H s → wpAny (model X.prog X.w) X.A (eval iter X.env) (fun v s1 => wpAny (model X.prog X.w) X.A (pyIter v) (PIE X pins σ tg R) X.xe s1) X.xe s
theorem pi_W (X : Cx) (tg iter : Expr) : PI X tg iter (tWI X tg iter) := ⟨fun pins s σ H R I h => h pins s I⟩
theorem tWI_of {tg iter : Expr} {w : TI} (h : PI X tg iter w) {σ : L2.St} {H : Hp} {R : It → Hp → Prop} (q : w σ H R) : tWI X tg iter σ H R := fun pins s I => h.run pins s σ H R I q
/-- kept data, or what an own slot holds -/
def ItA (g : Gx) (Hb : Hp) (e : VE) (σ : L2.St) (v : Val) (d : D) (x : V) : Prop := Rp g Hb d x ∨ ∃ i b k c, v = .vw i ∧ e[i]? = some (.own b k c) ∧ d = c.toD ∧ σ[i]? = some (some x)
def ItAs (g : Gx) (Hb : Hp) (e : VE) (σ : L2.St) : List Val → List D → List V → Prop
  | [], ds, xs => ds = [] ∧ xs = []
  | v :: l, ds, xs => ∃ d ds' x xs', ds = d :: ds' ∧ xs = x :: xs' ∧ ItA g Hb e σ v d x ∧ ItAs g Hb e σ l ds' xs'
theorem itas_of {Hb H : Hp} {e : VE} {σ : L2.St} (I : VS g Hb e σ H) : ∀ {vs : List Val} {xs : List V} {ds : List D}, RKs g Hb e σ vs xs → rds e vs = some ds → ItAs g Hb e σ vs ds xs
  | [], _, _, h, k => by cases k; cases h; exact ⟨rfl, rfl⟩
  | v :: l, _, ds, h, k => by
    obtain ⟨x, r, rfl, h1, h2⟩ := h
    unfold rds at k
    cases q : rd e v with
    | none => rw [q] at k; cases k
    | some d =>
      rw [q] at k
      dsimp only [Option.bind] at k
      cases q2 : rds e l with
      | none => rw [q2] at k; cases k
      | some ds' =>
        rw [q2] at k
        cases k
        refine ⟨d, ds', x, r, rfl, rfl, ?_, itas_of I h2 q2⟩
        cases v with
        | p d' => cases q; exact .inl h1
        | fr c => cases q; exact .inl h1
        | vw i =>
          obtain ⟨e1, s, e2, n⟩ := h1
          have q' : (e[i]?).bind SS.rd = some d := q
          rw [e2] at q'
          cases s with
          | un => exact absurd rfl n
          | dat d' =>
            cases q'
            obtain ⟨y, z1, z2⟩ := I.dat i _ e2
            rw [e1] at z1; cases z1
            exact .inl z2
          | own b k c =>
            cases q'
            exact .inr ⟨i, b, k, c, rfl, e2, rfl, e1⟩
/-- what is walked -/
def ItP (g : Gx) (σ : L2.St) : Hp → Hp → Hp → VE → (List Val × List D) → It → Prop := fun _ Hb _ e p J => ∃ ds xs, ItAs g Hb e σ p.1 ds xs ∧ JOk g ds xs p.2 J
theorem early_I {σ : L2.St} : Early (ItP g σ) := fun _ _ _ _ _ _ _ _ r => r
def SI (g : Gx) (X : Cx) (W : WX) (tg iter : Expr) (m : VE → R (List Val × List D)) : Prop := ∀ e σ Hb H (Q : It → Hp → Prop), VS g Hb e σ H → CA (ItP g σ) g W σ Hb H e (m e) Q → tWI X tg iter σ H Q
/-- .. as it is used -/
theorem sa_its {es : List Expr} {ts : List T} {k : Ik} {e : VE} {σ : L2.St} {Hb H : Hp} {Q : It → Hp → Prop} {R : List V → Hp → Prop} (ha : SA g X W es (evs ce ts)) (I : VS g Hb e σ H)
    (h : CA (ItP g σ) g W σ Hb H e ((evs ce ts e).bind (itsOf k)) Q)
    (hR : ∀ vs e1 ds its xs Hb1 H1, evs ce ts e = .ok vs e1 → rds e1 vs = some ds → itOf k ds = some its → Ex Hb1 H1 → RRs g Hb1 H1 ds xs → (∀ J, JOk g ds xs its J → Q J H1) → R xs H1) : tWA X es σ H R := by
  refine ha e σ Hb H _ I ?_
  cases q1 : evs ce ts e with
  | no => rw [q1] at h; exact h
  | rz xd e1 => rw [q1] at h; exact h
  | ok vs e1 =>
    rw [q1] at h
    intro xs Hb1 H1 p1 r1
    have h1 : CA (ItP g σ) g W σ Hb H e (itsOf k vs e1) Q := h
    unfold itsOf at h1
    cases q2 : rds e1 vs with
    | none => rw [q2] at h1; exact h1.elim
    | some ds =>
      rw [q2] at h1
      dsimp only [Option.bind] at h1
      cases q3 : itOf k ds with
      | none => rw [q3] at h1; exact h1.elim
      | some its =>
        rw [q3] at h1
        obtain ⟨Hb2, p2, b2, k2⟩ := RVs.keep p1 r1
        exact hR vs e1 ds its xs Hb1 H1 q1 q2 q3 p1.st.ex (r1.reads p1.st q2) fun J hJ => h1 J Hb2 H1 p2 ⟨ds, xs, itas_of p2.st k2 q2, hJ⟩
theorem si_seq {a tg : Expr} {ta : T} (G : Good g kk X W) (ha : SE g X W a (ev ce ta)) : SI g X W tg a (fun e => (evs ce [ta] e).bind (itsOf .seq)) := by
  intro e σ Hb H Q I h
  -- the value is known ahead
  have ha' : ∀ (Q' : VK), CA (PV g σ) g W σ Hb H e (ev ce ta e) Q' → tW X a σ H Q' := fun Q' => ha e σ Hb H Q' I
  simp only [evs] at h
  cases q1 : ev ce ta e with
  | no => rw [q1] at h ha'; exact h.elim
  | rz xd e1 =>
    rw [q1] at h ha'
    have h' : CA (ItP g σ) g W σ Hb H e (R.rz xd e1) Q := h
    exact tWI_of (pi_list (pe_W X a)) (ha' _ h')
  | ok v1 e1 =>
    rw [q1] at h ha'
    have h1 : CA (ItP g σ) g W σ Hb H e (itsOf .seq [v1] e1) Q := h
    unfold itsOf at h1
    cases q2 : rds e1 [v1] with
    | none => rw [q2] at h1; exact h1.elim
    | some ds =>
      rw [q2] at h1
      dsimp only [Option.bind] at h1
      have q2' := q2
      unfold rds at q2'
      cases q4 : rd e1 v1 with
      | none => rw [q4] at q2'; cases q2'
      | some d =>
        rw [q4] at q2'
        cases q2'
        have fin : ∀ x1 Hb1 H1 its, itOf .seq [d] = some its → PK g σ Hb H e Hb1 H1 e1 → RV g H Hb1 H1 e1 σ v1 x1 → RR g Hb1 H1 d x1 ∧ ∀ J, JOk g [d] [x1] its J → Q J H1 := by
          intro x1 Hb1 H1 its q3 p1 r1
          rw [q3] at h1
          obtain ⟨Hb2, p2, b2, k2⟩ := RVs.keep (vs := [v1]) (xs := [x1]) p1 ⟨x1, [], rfl, r1, rfl, fun _ _ j c' z => by simp at z⟩
          exact ⟨r1.read p1.st q4, fun J hJ => h1 J Hb2 H1 p2 ⟨[d], [x1], itas_of p2.st k2 q2, hJ⟩⟩
        cases d with
        | lst l =>
          refine tWI_of (pi_list (pe_W X a)) (ha' _ fun x1 Hb1 H1 p1 r1 => ?_)
          obtain ⟨⟨b, vs, rfl, z1, z2⟩, k⟩ := fin x1 Hb1 H1 l rfl p1 r1
          exact ⟨b, rfl, ⟨vs, by rw [G.hK]; exact z1⟩, k _ (jok_list G.hK)⟩
        | tup l =>
          refine tWI_of (pi_tup (pe_W X a)) (ha' _ fun x1 Hb1 H1 p1 r1 => ?_)
          obtain ⟨⟨b, vs, rfl, z1, z2⟩, k⟩ := fin x1 Hb1 H1 l rfl p1 r1
          exact ⟨b, rfl, ⟨vs, by rw [G.hK]; exact p1.st.ex.sqt z1⟩, k _ (jok_tup G.hK)⟩
        | str l =>
          refine tWI_of (pi_str (pe_W X a)) (ha' _ fun x1 Hb1 H1 p1 r1 => ?_)
          obtain ⟨z, k⟩ := fin x1 Hb1 H1 (l.map fun c => .str [c]) rfl p1 r1
          exact ⟨sT l, z.1, k _ jok_str⟩
        | _ => exact h1.elim
/-- the items are known ahead -/
theorem its_ahead {ts : List T} {k : Ik} {e : VE} {σ : L2.St} {Hb H : Hp} {Q : It → Hp → Prop} (h : CA (ItP g σ) g W σ Hb H e ((evs ce ts e).bind (itsOf k)) Q) :
    (∃ xd e1, evs ce ts e = .rz xd e1) ∨ ∃ vs e1 ds its, evs ce ts e = .ok vs e1 ∧ rds e1 vs = some ds ∧ itOf k ds = some its := by
  cases q1 : evs ce ts e with
  | no => rw [q1] at h; exact h.elim
  | rz xd e1 => exact .inl ⟨xd, e1, rfl⟩
  | ok vs e1 =>
    rw [q1] at h
    have h1 : CA (ItP g σ) g W σ Hb H e (itsOf k vs e1) Q := h
    unfold itsOf at h1
    cases q2 : rds e1 vs with
    | none => rw [q2] at h1; exact h1.elim
    | some ds =>
      rw [q2] at h1
      dsimp only [Option.bind] at h1
      cases q3 : itOf k ds with
      | none => rw [q3] at h1; exact h1.elim
      | some its => exact .inr ⟨vs, e1, ds, its, rfl, q2, q3⟩
theorem its_same {vs vs' : List Val} {e1 e1' : VE} {ds ds' : List D} {ts : List T} {e : VE} (q1 : evs ce ts e = .ok vs e1) (q2 : rds e1 vs = some ds) (r1 : evs ce ts e = .ok vs' e1') (r2 : rds e1' vs' = some ds') : ds' = ds := by
  rw [q1] at r1; cases r1
  rw [q2] at r2; cases r2
  rfl
theorem si_rng1 {a tg : Expr} {ta : T} {p pos : Pos} (G : Good g kk X W) (hg : Gl X "range") (hm : X.mg "range" = none) (hs : noStar a = true) (ha : SA g X W [a] (evs ce [ta])) : SI g X W tg (.Call (.Name "range" p) [a] [] pos) (fun e => (evs ce [ta] e).bind (itsOf .rng)) := by
  intro e σ Hb H Q I h
  refine tWI_of (pi_range1 hg hm (pa_W X [a]) (star1 hs [] X.env)) (sa_its ha I h fun vs e1 ds its xs Hb1 H1 q1 q2 q3 ex rr k => ?_)
  have hl : ds.length = 1 := by
    have h1 := evs_len q1
    have : ∀ {vs : List Val} {ds : List D}, rds e1 vs = some ds → ds.length = vs.length := by
      intro vs
      induction vs with
      | nil => intro ds h; cases h; rfl
      | cons v l ih =>
        intro ds h
        unfold rds at h
        cases q : rd e1 v with
        | none => rw [q] at h; cases h
        | some d =>
          rw [q] at h
          dsimp only [Option.bind] at h
          cases q' : rds e1 l with
          | none => rw [q'] at h; cases h
          | some r => rw [q'] at h; cases h; simp [ih q']
    rw [this q2, h1]; rfl
  match ds, hl with
  | [d], _ =>
    obtain ⟨x, rfl, r⟩ := rr.one
    cases d <;> first | (cases q3; done) | skip
    rename_i n _
    have q3' : rngOf [.int n] = some its := q3
    unfold rngOf at q3'
    dsimp only at q3'
    split at q3'
    · rename_i hn
      cases q3'
      cases r
      unfold line at hn
      exact ⟨n, rfl, by omega, by omega, k _ jok_rng1⟩
    · cases q3'
theorem rds_len {e1 : VE} : ∀ {vs : List Val} {ds : List D}, rds e1 vs = some ds → ds.length = vs.length
  | [], ds, h => by cases h; rfl
  | v :: l, ds, h => by
    unfold rds at h
    cases q : rd e1 v with
    | none => rw [q] at h; cases h
    | some d =>
      rw [q] at h
      dsimp only [Option.bind] at h
      cases q' : rds e1 l with
      | none => rw [q'] at h; cases h
      | some r => rw [q'] at h; cases h; simp [rds_len q']
theorem si_rng2 {a b tg : Expr} {ta tb : T} {p pos : Pos} (G : Good g kk X W) (hg : Gl X "range") (hm : X.mg "range" = none) (hs : noStar a = true) (hs2 : noStar b = true) (ha : SA g X W [a, b] (evs ce [ta, tb])) :
    SI g X W tg (.Call (.Name "range" p) [a, b] [] pos) (fun e => (evs ce [ta, tb] e).bind (itsOf .rng)) := by
  intro e σ Hb H Q I h
  have h1 := star1 hs [b] X.env
  have h2 := star1 hs2 [] X.env
  refine tWI_of (pi_range2 hg hm (pa_W X [a, b]) (by rw [h1, h2]; rfl) h2) (sa_its ha I h fun vs e1 ds its xs Hb1 H1 q1 q2 q3 ex rr k => ?_)
  have hl : ds.length = 2 := by rw [rds_len q2, evs_len q1]; rfl
  match ds, hl with
  | [d, d'], _ =>
    obtain ⟨x, y, rfl, r, r'⟩ := rr.two
    cases d <;> first | (cases q3; done) | skip
    cases d' <;> first | (cases q3; done) | skip
    rename_i n m _
    have q3' : rngOf [.int n, .int m] = some its := q3
    unfold rngOf at q3'
    dsimp only at q3'
    split at q3'
    · rename_i hn
      cases q3'
      cases r
      cases r'
      exact ⟨n, m, rfl, ⟨by omega, by omega, by omega, by omega⟩, k _ jok_rng2⟩
    · cases q3'
theorem si_enum {a : Expr} {ta : T} {p pos tpos : Pos} {elts : List Expr} {n : Nat} (G : Good g kk X W) (hg : Gl X "enumerate") (hm : X.mg "enumerate" = none) (hs : noStar a = true) (ha : SA g X W [a] (evs ce [ta])) :
    SI g X W (.Tuple elts n tpos) (.Call (.Name "enumerate" p) [a] [] pos) (fun e => (evs ce [ta] e).bind (itsOf .enum)) := by
  intro e σ Hb H Q I h
  have h0 := star1 hs [] X.env
  rcases its_ahead h with ⟨xd, e1, q⟩ | ⟨vs, e1, ds, its, q1, q2, q3⟩
  · exact tWI_of (pi_enum hg hm (pa_W X [a]) h0) (sa_its ha I h fun vs e1 ds its xs Hb1 H1 q1 => by rw [q] at q1; cases q1)
  · match ds, q3 with
    | [.lst l], q3 =>
      refine tWI_of (pi_enum hg hm (pa_W X [a]) h0) (sa_its ha I h fun vs' e1' ds' its' xs Hb1 H1 z1 z2 z3 ex rr k => ?_)
      have := its_same q1 q2 z1 z2
      subst this
      cases z3
      obtain ⟨x, rfl, r⟩ := rr.one
      obtain ⟨ad, ws, rfl, y1, y2⟩ := r
      exact ⟨ad, ws, rfl, by rw [G.hK]; exact y1, k _ (jok_enumL G.hK)⟩
    | [.tup l], q3 =>
      refine tWI_of (pi_enumT hg hm (pa_W X [a]) h0) (sa_its ha I h fun vs' e1' ds' its' xs Hb1 H1 z1 z2 z3 ex rr k => ?_)
      have := its_same q1 q2 z1 z2
      subst this
      cases z3
      obtain ⟨x, rfl, r⟩ := rr.one
      obtain ⟨ad, ws, rfl, y1, y2⟩ := r
      exact ⟨ad, ws, rfl, by rw [G.hK]; exact ex.sqt y1, k _ (jok_enumT G.hK)⟩
theorem si_zip {a b : Expr} {ta tb : T} {p pos tpos : Pos} {elts : List Expr} {n : Nat} (G : Good g kk X W) (hg : Gl X "zip") (hm : X.mg "zip" = none) (hs : noStar a = true) (hs2 : noStar b = true) (ha : SA g X W [a, b] (evs ce [ta, tb])) :
    SI g X W (.Tuple elts n tpos) (.Call (.Name "zip" p) [a, b] [] pos) (fun e => (evs ce [ta, tb] e).bind (itsOf .zip)) := by
  intro e σ Hb H Q I h
  have h1 := star1 hs [b] X.env
  have h2 := plain_es (env := X.env) (pos := pos) (es := [b]) (by simpa using hs2)
  by_cases hM : ∃ vs e1 l m, evs ce [ta, tb] e = .ok vs e1 ∧ rds e1 vs = some [.tup l, .lst m]
  · obtain ⟨vs, e1, l, m, q1, q2⟩ := hM
    refine tWI_of (pi_zipM hg hm (pa_W X [a, b]) h1 h2) (sa_its ha I h fun vs' e1' ds' its' xs Hb1 H1 z1 z2 z3 ex rr k => ?_)
    have := its_same q1 q2 z1 z2
    subst this
    cases z3
    obtain ⟨x, y, rfl, r, r'⟩ := rr.two
    obtain ⟨ad, ws, rfl, y1, y2⟩ := r
    obtain ⟨ad', ws', rfl, y1', y2'⟩ := r'
    exact ⟨ad, ad', ws, ws', rfl, by rw [G.hK]; exact ex.sqt y1, by rw [G.hK]; exact y1', k _ (jok_zipM G.hK)⟩
  refine tWI_of (RZ.pi_zipA hg hm (pa_W X [a, b]) h1 h2) (sa_its ha I h fun vs' e1' ds' its' xs Hb1 H1 z1 z2 z3 ex rr k => ?_)
  have hl : ds'.length = 2 := by rw [rds_len z2, evs_len z1]; rfl
  match ds', hl, z3 with
  | [.lst l, .lst m], _, z3 =>
    cases z3
    obtain ⟨x, y, rfl, r, r'⟩ := rr.two
    obtain ⟨ad, ws, rfl, y1, y2⟩ := r
    obtain ⟨ad', ws', rfl, y1', y2'⟩ := r'
    have hq : SqL X.K H1 ad ws := by rw [G.hK]; exact y1
    have hq' : SqL X.K H1 ad' ws' := by rw [G.hK]; exact y1'
    exact ⟨ad, ad', ws, ws', rfl, .inl ⟨hq, hq', k _ (jok_zipL G.hK)⟩⟩
  | [.tup l, .tup m], _, z3 =>
    cases z3
    obtain ⟨x, y, rfl, r, r'⟩ := rr.two
    obtain ⟨ad, ws, rfl, y1, y2⟩ := r
    obtain ⟨ad', ws', rfl, y1', y2'⟩ := r'
    have hq : SqT X.K H1 ad ws := by rw [G.hK]; exact ex.sqt y1
    have hq' : SqT X.K H1 ad' ws' := by rw [G.hK]; exact ex.sqt y1'
    exact ⟨ad, ad', ws, ws', rfl, .inr ⟨hq, hq', k _ (jok_zipT G.hK)⟩⟩
  | [.tup l, .lst m], _, z3 => exact (hM ⟨_, _, l, m, z1, z2⟩).elim
end
end Vd
/-! Vd13b: from the end; a range down; [::-1]. -/
namespace Vd
open PySem PySem.Spec PyProof.Rows L2
section
variable {g : Gx} {kk : Nat} {X : Cx} {W : WX} {ce : CE}
theorem jok_rngC {lo c : Int} {n : Nat} {ds : List D} {xs : List V} : JOk g ds xs ((List.range n).map fun (k : Nat) => .int (lo + (k : Int) * c)) (Itc lo c n) where
  go := fun Hb H i d ex h hi => by
    rw [List.getElem?_map] at hi
    cases q : (List.range n)[i]? with
    | none => rw [q] at hi; cases hi
    | some k =>
      rw [q] at hi
      cases hi
      obtain ⟨h1, h2⟩ := List.getElem?_eq_some_iff.mp q
      rw [List.getElem_range] at h2
      subst h2
      exact ⟨by rw [List.length_range] at h1; exact h1, fun x H' ⟨hh, hx⟩ => .inl ⟨hh, by rw [hx]; rfl⟩⟩
  stop := fun Hb H i ex h hi => by have hi := Nat.le_of_eq hi; rw [List.length_map, List.length_range] at hi; exact hi
theorem rev_at {l : List D} {i : Nat} {d : D} (h : l.reverse[i]? = some d) : i < l.length ∧ l[l.length - 1 - i]? = some d := by
  have hi := (List.getElem?_eq_some_iff.mp h).1
  rw [List.length_reverse] at hi
  exact ⟨hi, by rw [List.getElem?_reverse hi] at h; exact h⟩
theorem jok_revL (hK : X.K = g.K) {l : List D} {a : Addr} {n : Nat} (hn : n = l.length) : JOk g [.lst l] [.ref a] l.reverse (Itv X.K a n) where
  go := fun Hb H i d ex h hi => by
    subst hn
    obtain ⟨b, vs, e, h1, h2⟩ := h.of1
    cases e
    have hq : SqL X.K H a vs := by rw [hK]; exact h1
    obtain ⟨hl, hd⟩ := rev_at hi
    obtain ⟨v, e1, e2⟩ := h2.get hd
    exact ⟨⟨hl, vs, v, hq, e1⟩, fun x H' ⟨hh, hx⟩ => .inl ⟨hh, by
      have := hx vs hq
      rw [e1] at this; cases this; exact e2⟩⟩
  stop := fun Hb H i ex h hi => by
    have hi := Nat.le_of_eq hi
    rw [List.length_reverse] at hi
    show n ≤ i
    omega
theorem jok_revT (hK : X.K = g.K) {l : List D} {a : Addr} {n : Nat} (hn : n = l.length) : JOk g [.tup l] [.ref a] l.reverse (RT.ItvT X.K a n) where
  go := fun Hb H i d ex h hi => by
    subst hn
    obtain ⟨b, vs, e, h1, h2⟩ := h.of1
    cases e
    have hq : SqT X.K H a vs := by rw [hK]; exact ex.sqt h1
    obtain ⟨hl, hd⟩ := rev_at hi
    obtain ⟨v, e1, e2⟩ := h2.get hd
    exact ⟨⟨hl, vs, v, hq, e1⟩, fun x H' ⟨hh, hx⟩ => .inl ⟨hh, by
      have := hx vs hq
      rw [e1] at this; cases this; exact e2⟩⟩
  stop := fun Hb H i ex h hi => by
    have hi := Nat.le_of_eq hi
    rw [List.length_reverse] at hi
    show n ≤ i
    omega
/-- one value is walked in some way -/
theorem se_its {a : Expr} {ta : T} {k : Ik} {e : VE} {σ : L2.St} {Hb H : Hp} {Q : It → Hp → Prop} {R : V → Hp → Prop} (ha : SE g X W a (ev ce ta)) (I : VS g Hb e σ H)
    (h : CA (ItP g σ) g W σ Hb H e ((evs ce [ta] e).bind (itsOf k)) Q)
    (hR : ∀ d its x Hb1 H1, itOf k [d] = some its → Ex Hb1 H1 → RR g Hb1 H1 d x → (∀ J, JOk g [d] [x] its J → Q J H1) → R x H1) : tW X a σ H R := by
  refine ha e σ Hb H _ I ?_
  simp only [evs] at h
  cases q1 : ev ce ta e with
  | no => rw [q1] at h; exact h.elim
  | rz xd e1 => rw [q1] at h; exact h
  | ok v1 e1 =>
    rw [q1] at h
    have h1 : CA (ItP g σ) g W σ Hb H e (itsOf k [v1] e1) Q := h
    unfold itsOf at h1
    cases q2 : rds e1 [v1] with
    | none => rw [q2] at h1; exact h1.elim
    | some ds =>
      rw [q2] at h1
      dsimp only [Option.bind] at h1
      have q2' := q2
      unfold rds at q2'
      cases q4 : rd e1 v1 with
      | none => rw [q4] at q2'; cases q2'
      | some d =>
        rw [q4] at q2'
        cases q2'
        cases q3 : itOf k [d] with
        | none => rw [q3] at h1; exact h1.elim
        | some its =>
          rw [q3] at h1
          intro x1 Hb1 H1 p1 r1
          obtain ⟨Hb2, p2, b2, k2⟩ := RVs.keep (vs := [v1]) (xs := [x1]) p1 ⟨x1, [], rfl, r1, rfl, fun _ _ j c' z => by simp at z⟩
          exact hR d its x1 Hb1 H1 q3 p1.st.ex (r1.read p1.st q4) fun J hJ => h1 J Hb2 H1 p2 ⟨[d], [x1], itas_of p2.st k2 q2, hJ⟩
theorem si_rev {a tg : Expr} {ta : T} {p pos : Pos} (G : Good g kk X W) (hg : Gl X "reversed") (hm : X.mg "reversed" = none) (hs : noStar a = true) (ha : SE g X W a (ev ce ta)) : SI g X W tg (.Call (.Name "reversed" p) [a] [] pos) (fun e => (evs ce [ta] e).bind (itsOf .rev)) := by
  intro e σ Hb H Q I h
  refine tWI_of (RT.pi_revA hg hm (pe_W X a) (star1 hs [] X.env)) (se_its ha I h fun d its x Hb1 H1 q ex r k => ?_)
  cases d <;> first | (cases q; done) | skip
  · cases q
    obtain ⟨b, vs, rfl, h1, h2⟩ := r
    exact ⟨b, vs, rfl, .inr ⟨by rw [G.hK]; exact ex.sqt h1, k _ (jok_revT G.hK h2.length)⟩⟩
  · cases q
    obtain ⟨b, vs, rfl, h1, h2⟩ := r
    exact ⟨b, vs, rfl, .inl ⟨by rw [G.hK]; exact h1, k _ (jok_revL G.hK h2.length)⟩⟩
theorem si_rrng {a tg : Expr} {ta : T} {p p2 pos pos2 : Pos} (G : Good g kk X W) (hg : Gl X "reversed") (hm : X.mg "reversed" = none) (hg2 : Gl X "range") (hm2 : X.mg "range" = none) (hs : noStar a = true) (ha : SE g X W a (ev ce ta)) : SI g X W tg (.Call (.Name "reversed" p) [.Call (.Name "range" p2) [a] [] pos2] [] pos) (fun e => (evs ce [ta] e).bind (itsOf .rrng)) := by
  intro e σ Hb H Q I h
  refine tWI_of (pi_revR hg hm (prg_1 hg2 hm2 (pe_W X a) (star1 hs [] X.env)) rfl) (se_its ha I h fun d its x Hb1 H1 q ex r k => ?_)
  have q' : rrngOf [d] = some its := q
  unfold rrngOf at q'
  split at q'
  · rename_i n heq
    cases heq
    split at q'
    · rename_i hn
      cases q'
      cases r
      unfold line at hn
      refine ⟨n, rfl, by decide, by decide, by omega, by omega, ?_⟩
      have e1 : (0 : Int) + (((n - 0).toNat : Nat) : Int) - 1 = (n.toNat : Int) - 1 := by rw [Int.sub_zero]; omega
      rw [e1, Int.sub_zero]
      exact k _ jok_rngC
    · cases q'
  · cases q'
theorem si_rng3 {a b c tg : Expr} {ta tb tc : T} {p pos : Pos} (G : Good g kk X W) (hg : Gl X "range") (hm : X.mg "range" = none) (hs : [a, b, c].all noStar = true) (ha : SA g X W [a, b, c] (evs ce [ta, tb, tc])) :
    SI g X W tg (.Call (.Name "range" p) [a, b, c] [] pos) (fun e => (evs ce [ta, tb, tc] e).bind (itsOf .rng)) := by
  intro e σ Hb H Q I h
  have hs1 := hs
  rw [List.all_cons, Bool.and_eq_true] at hs1
  refine tWI_of (pi_range3 hg hm (pa_W X [a, b, c]) (star1 hs1.1 [b, c] X.env) (plain_es hs1.2)) (sa_its ha I h fun vs e1 ds its xs Hb1 H1 q1 q2 q3 ex rr k => ?_)
  have hl : ds.length = 3 := by rw [rds_len q2, evs_len q1]; rfl
  match ds, hl with
  | [d, d', d''], _ =>
    obtain ⟨x, r, rfl, r1, rr⟩ := rr
    obtain ⟨y, z, rfl, r2, r3⟩ := RRs.two rr
    have q3' : rngOf [d, d', d''] = some its := q3
    unfold rngOf at q3'
    split at q3'
    · rename_i z1; cases z1
    · rename_i z1; cases z1
    · rename_i n m c z1
      cases z1
      split at q3'
      · rename_i hn
        obtain ⟨rfl, hn⟩ := hn
        cases q3'
        cases r1
        cases r2
        cases r3
        exact ⟨n, m, -1, (n - m).toNat, rfl, RgC.neg (by omega) (by omega) (by omega) (by omega), k _ jok_rngC⟩
      · cases q3'
    · cases q3'
end
end Vd
/-! Vf8: list(range(a, b, c)); {..}.get(k, d). -/
namespace Vd
open PySem PySem.Spec PyProof.Rows L2
theorem vals_rc {a c : Int} {n : Nat} {acc : Array Value} (h : ItemsOf (fun i v => ∃ t, v = .int (a + i * c) t) acc n) : Vals ((List.range n).map fun (i : Nat) => V.int (a + (i : Nat) * c)) acc.toList := by
  have e : acc.toList.length = n := by rw [Array.length_toList]; exact h.1
  rw [← e]
  refine vals_of_get acc.toList _ fun j u hj => ?_
  obtain ⟨t, rfl⟩ := h.2 j u (by rw [← hj, Array.getElem?_toList])
  exact ⟨t, rfl⟩
def tLrg (ta : TA) : TE := fun σ H Q => ta σ H fun vs H1 => ∃ (i j c : Int) (n : Nat), vs = [.int i, .int j, .int c] ∧ RgC i j c n ∧ n ≤ 2 ^ 24 ∧ ∀ q, H1 q = none → Q (.ref q) (upd H1 q (.lst ((List.range n).map fun (k : Nat) => V.int (i + (k : Nat) * c))))
theorem pe_lrg {X : Cx} {a b c : Expr} {ta : TA} {p p2 pos pos2 : Pos} (hc : X.calm = true) (hg : Gl X "list") (hm : X.mg "list" = none) (hg2 : Gl X "range") (hm2 : X.mg "range" = none) (ha : PA X [a, b, c] ta)
    (hs : starEach [a, b, c] X.env = (false, eval a X.env) :: starEach [b, c] X.env) (hpl : (backTo pos2 (starEach [b, c] X.env)).any (·.1) = false) :
    PE X (.Call (.Name "list" p) [.Call (.Name "range" p2) [a, b, c] [] pos2] [] pos) (tLrg ta) := by
  have na := star1 (a := .Call (.Name "range" p2) [a, b, c] [] pos2) rfl [] X.env
  refine ⟨fun pins s σ H Q I h => Call_ (ld_blt I hg hm boot_list (callWith_type1 (args_cons ?_ na) na rfl))⟩
  refine Call_ (ld_blt I hg2 hm2 boot_range (callWith_type1 (thn (ha.run pos2 pins s σ H _ I h) fun us s1 ⟨vs, H1, I1, r1, q1⟩ => ?_) hs hpl))
  obtain ⟨i, j, k, n, e, ⟨c0, c1, c2, c3⟩, hn, q⟩ := q1
  subst e
  cases r1 with
  | cons r rr =>
    cases rr with
    | cons r' rr =>
      cases rr with
      | cons r'' rr =>
        cases rr
        obtain ⟨t, rfl⟩ := r
        obtain ⟨t', rfl⟩ := r'
        obtain ⟨t'', rfl⟩ := r''
        refine call_range_3 c0 ?_ (.inl (PyProof.noPylong_small c1))
        refine args_nil ?_
        have I2 : Inv X pins σ H1 { s1 with heap := s1.heap.push { cls := .type "range", data := .fields #[.int i t, .int j t', .int k t''] } } := I1.kept (t' := s1.toks) fun b o e => Heap.get?_push_of_some _ e
        refine call_list_range (n := n) (I2.ok.hd hc) (IsRange.new _ _ _ _ _ _ _) c2 c3 hn fun h' tk acc c' hk e' hi => ?_
        refine ⟨.ref _, upd H1 _ (.lst ((List.range n).map fun (z : Nat) => V.int (i + (z : Nat) * k))), I2.laid hk (Nat.le_refl _) (show ObjOk X.prog X.w _ _ _ (.lst _) from ⟨?_, acc.toList, c', vals_rc hi, ?_⟩), rfl, q _ (I2.hok.fresh (Nat.le_refl _))⟩
        · rw [List.length_map, List.length_range, sizeLine_eq]; omega
        · rw [Array.toArray_toList]; exact e'
section
variable {g : Gx} {kk : Nat} {X : Cx} {W : WX} {ce : CE}
theorem rng_rps {Hb : Hp} {n : Int} {m : Nat} : ∀ l : List Nat, Rps g Hb (l.map fun j => D.int (n + (j : Nat) * (-1))) (l.map fun j => V.int (n + (j : Nat) * (-1)))
  | [] => rfl
  | j :: l => ⟨_, _, rfl, rfl, rng_rps (m := m) l⟩
theorem se_lrg {a b c : Expr} {ts : List T} {p p2 pos pos2 : Pos} (G : Good g kk X W) (hk : 0 < kk) (hg : Gl X "list") (hm : X.mg "list" = none) (hg2 : Gl X "range") (hm2 : X.mg "range" = none) (hs : [a, b, c].all noStar = true) (ha : SA g X W [a, b, c] (evs ce ts)) :
    SE g X W (.Call (.Name "list" p) [.Call (.Name "range" p2) [a, b, c] [] pos2] [] pos) (ev ce (.bi .lrg ts)) := by
  intro e σ Hb H Q I h
  rw [ev] at h
  have hs1 := hs
  rw [List.all_cons, Bool.and_eq_true] at hs1
  refine tW_of (pe_lrg (G.calm hk) hg hm hg2 hm2 (pa_W X [a, b, c]) (star1 hs1.1 [b, c] X.env) (plain_es hs1.2)) ?_
  refine ha e σ Hb H _ I (CA.bind early_V h fun vs e1 xs Hb1 H1 p1 r1 h1 => ?_)
  obtain ⟨v, q, k⟩ := CA.ofO' h1
  cases q2 : rds e1 vs with
  | none => rw [q2] at q; cases q
  | some ds =>
    rw [q2] at q
    have rr := r1.reads p1.st q2
    have q' : bfn .lrg ds = some v := q
    unfold bfn at q'
    split at q' <;> first | (rename_i z; cases z; done) | (rename_i z _; cases z; done) | skip
    all_goals first | (cases q'; done) | skip
    rename_i n m c hbb
    split at q'
    · rename_i hn
      obtain ⟨rfl, b1, b2, b3, b4, b5⟩ := hn
      cases q'
      obtain ⟨x, r, rfl, ra, rr⟩ := rr
      obtain ⟨y, z, rfl, rb, rc⟩ := RRs.two rr
      cases ra
      cases rb
      cases rc
      unfold line at b2 b4 b5
      refine ⟨n, m, -1, (n - m).toNat, rfl, RgC.neg (by omega) (by omega) (by omega) (by omega), by omega, fun w hw => ?_⟩
      exact k _ _ _ (.temp p1.st hw) (RV.temp p1.st hw ⟨_, upd_same, rng_rps (m := 0) _⟩)
    · cases q'
theorem dct_fr {ks : List DK} {l : List T} {e e1 : VE} {v : Val} (h : ev ce (.dct ks l) e = .ok v e1) : ∃ ls, v = .fr (.od ls) := by
  rw [ev] at h
  cases q1 : evs ce l e with
  | rz x e' => rw [q1] at h; cases h
  | no => rw [q1] at h; cases h
  | ok vs e' =>
    rw [q1, R.bind_ok] at h
    cases q2 : fzs vs e' with
    | none => rw [q2] at h; cases h
    | some p =>
      rw [q2, ofP_some, R.bind_ok] at h
      split at h
      · cases h; exact ⟨_, rfl⟩
      · cases h
theorem flat_rp {d : D} {x : V} {Hb H : Hp} (h : flat d = true) (r : RR g Hb H d x) (Hb' : Hp) : Rp g Hb' d x := by
  cases d <;> first | exact r | (cases h; done)
theorem se_dget {a ek ed : Expr} {ks : List DK} {l : List T} {tk td : T} {apos cpos : Pos} (G : Good g kk X W) (hc : noCall a = true) (hl : (apos.endLine == cpos.line) = true) (hs1 : noStar ek = true) (hs2 : noStar ed = true)
    (ha : SE g X W a (ev ce (.dct ks l))) (hk : SE g X W ek (ev ce tk)) (hd : SE g X W ed (ev ce td)) : SE g X W (.Call (.Attribute a "get" apos) [ek, ed] [] cpos) (ev ce (.bi .dget [.dct ks l, tk, td])) := by
  intro e σ Hb H Q I h
  rw [ev] at h
  simp only [evs] at h
  have hs : [ek, ed].all noStar = true := by simp [hs1, hs2]
  have hu := G.hu'
  refine tW_of (pe_dget2 (by omega) (pe_W X a) (pe_W X ek) (pe_W X ed) ⟨base_of hc _ _ _, few_ok hs (by simp), hl, by rw [star1 hs1, star1 hs2]; rfl⟩) ?_
  refine ha e σ Hb H _ I ?_
  cases q1 : ev ce (.dct ks l) e with
  | rz x e' => rw [q1] at h; exact h
  | no => rw [q1] at h; exact h
  | ok v1 e1 =>
    rw [q1] at h
    obtain ⟨ls, rfl⟩ := dct_fr q1
    intro x1 Hb1 H1 p1 r1
    obtain ⟨A, rfl, z0, z1, ⟨kvs, z2, z3⟩, z4⟩ := id r1
    refine ⟨A, rfl, .inl ⟨kvs, .inl z2⟩, ?_⟩
    refine hk e1 σ Hb1 H1 _ p1.st ?_
    dsimp only [R.bind_ok] at h
    cases q2 : ev ce tk e1 with
    | rz x e' => rw [q2] at h; exact fun cls d Hb' H' p2 rx => h cls d Hb' H' (p1.trans p2) rx
    | no => rw [q2] at h; exact h
    | ok v2 e2 =>
      rw [q2] at h
      intro x2 Hb2 H2 p2 r2
      refine hd e2 σ Hb2 H2 _ p2.st ?_
      dsimp only [R.bind_ok] at h
      cases q3 : ev ce td e2 with
      | rz x e' => rw [q3] at h; exact fun cls d Hb' H' p3 rx => h cls d Hb' H' ((p1.trans p2).trans p3) rx
      | no => rw [q3] at h; exact h
      | ok v3 e3 =>
        rw [q3] at h
        intro x3 Hb3 H3 p3 r3
        simp only [R.bind_ok] at h
        have pk := (p1.trans p2).trans p3
        have s1 := (r1.step p2).step p3
        have s2 := r2.step p3
        cases q : (rds e3 [Val.fr (OC.od ls), v2, v3]).bind fun ds => bfn B1.dget ds with
        | none => rw [q] at h; exact h.elim
        | some v =>
        rw [q] at h
        have k : ∀ x Hb' H', PK g σ Hb H e Hb' H' e3 → PV g σ H Hb' H' e3 v x → Q x H' := h
        simp only [rds] at q
        rw [show rd e3 (.fr (.od ls)) = some (.dct ls) from rfl] at q
        cases w2 : rd e3 v2 with
        | none => rw [w2] at q; cases q
        | some d2 =>
          rw [w2] at q
          cases w3 : rd e3 v3 with
          | none => rw [w3] at q; cases q
          | some d3 =>
              rw [w3] at q
              have q' : bfn .dget [.dct ls, d2, d3] = some v := q
              have q'' : (if flat d3 = true then (keyOf d2).map fun k => Val.p ((look k ls).getD d3) else none) = some v := q'
              split at q''
              · rename_i hf
                obtain ⟨A', e9, y0, y1, ⟨kvs', y2, y3⟩, y4⟩ := s1
                cases e9
                cases w4 : keyOf d2 with
                | none => rw [w4] at q''; cases q''
                | some kx =>
                  rw [w4] at q''
                  cases q''
                  have rk : x2 = kV (kT kx) := key_V w4 ((s2.read p3.st w2).rp p3.st.ex)
                  refine ⟨valV kvs' (kT kx), .inl ⟨kvs', kT kx, .inl y2, rk, rfl⟩, ?_⟩
                  have L := rpk_look kx y3
                  cases w5 : look kx ls with
                  | none =>
                    rw [L.2 w5]
                    refine k _ Hb3 H3 pk ?_
                    show Rp g Hb3 ((look kx ls).getD d3) _
                    rw [w5]
                    exact flat_rp hf (r3.read p3.st w3) _
                  | some dv =>
                    obtain ⟨u, u1, u2⟩ := L.1 dv w5
                    rw [u1]
                    refine k _ Hb3 H3 pk ?_
                    show Rp g Hb3 ((look kx ls).getD d3) _
                    rw [w5]
                    exact u2
              · cases q''
end
end Vd
/-! Vf9: a[::-1] of a list or a tuple. -/
namespace Vd
open PySem PySem.Spec PyProof.Rows L2
section
variable {prog : Program} {w : World} {A : Around} {E : Value → Shared → Prop} {s : Shared}
theorem back_adj (n : Nat) : Builtin.Slice.sliceAdjust none none (-1) (n : Int) = ((n : Int) - 1, -1) := rfl
theorem back_plc (n : Nat) : Builtin.Slice.slicePlaces ((n : Int) - 1) (-1) (-1) = n := by
  unfold Builtin.Slice.slicePlaces
  rw [if_neg (by decide)]
  split
  · rw [show (- -1 : Int) = 1 from rfl, Int.ediv_one]; omega
  · omega
theorem fm_cong {α β : Type} {f g : α → Option β} : ∀ {l : List α}, (∀ x ∈ l, f x = g x) → l.filterMap f = l.filterMap g
  | [], _ => rfl
  | x :: l, h => by
    rw [List.filterMap_cons, List.filterMap_cons, h x List.mem_cons_self, fm_cong fun y hy => h y (List.mem_cons_of_mem _ hy)]
theorem back_pick (xs : Array Value) : ((List.range xs.size).filterMap fun (k : Nat) => xs[((xs.size : Int) - 1 + (k : Int) * (-1)).toNat]?).toArray = xs.toList.reverse.toArray := by
  rw [← PySem.W.krv_pick]
  unfold slicePick
  rw [PySem.W.krv_bounds]
  show _ = ((sliceRange ((xs.size : Int) - 1) (-1) (-1)).filterMap (xs[·]?)).toArray
  rw [PySem.W.krv_sliceRange, List.filterMap_map]
  congr 1
  refine fm_cong fun k hk => ?_
  have := List.mem_range.mp hk
  show xs[_]? = xs[_]?
  congr 1
  dsimp only
  omega
theorem back_app {sl : Addr} {v : Value} {n : Nat} {Q : Int × Int × Nat → Shared → Prop} (y : s.heap.IsSliceOf sl .none .none v) (pv : IsPart v (some (-1))) (q : Q ((n : Int) - 1, -1, n) s) :
    wpAny (model prog w) A (Builtin.Slice.sliceApplied (.ref sl) (pure (n : Int))) Q E s := by
  obtain ⟨ob, y1, y2, y3⟩ := id y
  unfold Builtin.Slice.sliceApplied Builtin.Slice.sliceFields
  refine wpAny_bind (wpAny_bind (wpAny_field y1 y3 (x := .none) rfl (wpAny_bind (wpAny_field y1 y3 (x := .none) rfl (wpAny_bind (wpAny_field y1 y3 (x := v) rfl (wpAny_pure ?_)))))))
  refine wpAny_bind (HT.slicePart_ pv ?_)
  show wpAny _ _ (if ((-1 : Int) == 0) = true then _ else _) _ _ s
  rw [if_neg (show ¬ ((-1 : Int) == 0) = true by decide)]
  refine wpAny_bind (PyProof.Rows.slicePart_none (wpAny_bind (PyProof.Rows.slicePart_none (wpAny_bind (wpAny_pure ?_)))))
  show wpAny _ _ (match Builtin.Slice.sliceAdjust none none (-1) (n : Int) with | (a, b) => pure (a, (-1 : Int), Builtin.Slice.slicePlaces a b (-1))) _ _ s
  rw [back_adj]
  show wpAny _ _ (pure ((n : Int) - 1, (-1 : Int), Builtin.Slice.slicePlaces ((n : Int) - 1) (-1) (-1))) _ _ s
  rw [back_plc]
  exact wpAny_pure q
theorem back_tup {t sl : Addr} {xs : Array Value} {v : Value} {Q : Value → Shared → Prop} (T : IsTup s.heap t xs) (y : s.heap.IsSliceOf sl .none .none v) (pv : IsPart v (some (-1)))
    (q : Q (.ref s.heap.objs.size) { s with heap := s.heap.push { cls := .type "tuple", data := .seq xs.toList.reverse.toArray } }) (z : xs.size ≤ sizeLine) : wpAny (model prog w) A (getItem (.ref t) (.ref sl)) Q E s := by
  have z' : sizeOk (.seq xs.toList.reverse.toArray) := by
    show (xs.toList.reverse.toArray).size ≤ sizeLine
    rw [List.size_toArray, List.length_reverse, Array.length_toList]; exact z
  obtain ⟨ob, y1, y2, y3⟩ := id y
  have y4 : s.TypeIs (.ref sl) "slice" := ⟨ob, y1, y2⟩
  unfold getItem
  try with_reducible refine wpAny_holding ?_
  first | refine wpAny_bind (wpAny_pure ?_) | skip
  refine wpAny_bind (wpAny_sequenceKey T.typeIs (by decide) ?_)
  refine wpAny_bind (wpAny_callSpecial?_slot (name := Str.ofString "__getitem__") T.typeIs PyProof.Rows.slot_tuple_getitem (wpAny_call_entry PyProof.Rows.slot_tuple_getitem T.typeIs PyProof.Rows.entry_tuple_getitem ?_ (PyProof.Rows.args_tuple_getitem _ _)))
  show wpAny _ _ (Builtin.Tuple.tupleItemsOf (.ref t) >>= _) _ _ s
  refine wpAny_bind (PyProof.Rows.tupleItemsOf_ T ?_)
  refine wpAny_bind (wpAny_typeOf y4 ?_)
  rw [if_pos (by decide)]
  refine wpAny_bind (back_app y pv ?_)
  show wpAny _ _ (if (((xs.size : Int) - 1 == 0) && ((-1 : Int) == 1) && (xs.size == xs.size)) = true then _ else _) _ _ s
  rw [if_neg (by simp), back_pick]
  first
    | exact wpAny_bind (m := Builtin.Tuple.tupleExact _) (wpAny_newObj_type (wpAny_pure ⟨_, rfl, wpAny_pure q⟩) z')
    | exact wpAny_bind (m := Builtin.Tuple.tupleExact _) (wpAny_newObj_type (wpAny_bind (wpAny_pure (wpAny_pure ⟨_, rfl, wpAny_pure q⟩))) z')
    | exact wpAny_bind (wpAny_bind (m := Builtin.Tuple.tupleExact _) (wpAny_newObj_type (wpAny_pure (wpAny_pure ⟨_, rfl, wpAny_pure q⟩)) z'))
    | exact wpAny_bind (wpAny_bind (m := Builtin.Tuple.tupleExact _) (wpAny_newObj_type (wpAny_pure ⟨_, rfl, wpAny_pure q⟩) z'))
end
/-- a[::-1] -/
def tRv (K : PySem.W.Frag) (te : TE) : TE := fun σ H Q => te σ H fun x H1 => ∃ a xs, x = .ref a ∧ ((SqL K H1 a xs ∧ ∀ p, H1 p = none → Q (.ref p) (upd H1 p (.lst xs.reverse))) ∨ (SqT K H1 a xs ∧ ∀ p, H1 p = none → Q (.ref p) (upd H1 p (.tup xs.reverse))))
theorem pe_rv {X : Cx} {e : Expr} {te : TE} {k : Nat} {p1 p2 p3 pos : Pos} (he : PE X e te) : PE X (.Subscript e (.Slice none none (some (.UnaryOp .USub (.Constant (.int 1) k p1) p2)) p3) pos) (tRv X.K te) := by
  refine ⟨fun pins s σ H Q I h => Subscript_ (thn (he.run pins s σ H _ I h) fun v s1 ⟨x, H1, I1, r1, q1⟩ => ?_)⟩
  obtain ⟨a, xs, ex, q⟩ := q1
  subst ex
  cases r1
  have step : PO X (some (.UnaryOp .USub (.Constant (.int 1) k p1) p2)) (tPart (tUn (rU fun i => .int (-i)) (tC (.int 1)))) := po_some (pe_un un_neg pe_int)
  refine wpAny_Slice (thn (po_none.run pins s1 σ H1 (fun o G => o = none ∧ G = H1) I1 ⟨rfl, rfl⟩) fun vl s2 ⟨l, H2, I2, pl, w1, w2⟩ => ?_)
  subst w1 w2
  refine thn (po_none.run pins s2 σ H2 (fun o G => o = none ∧ G = H2) I2 ⟨rfl, rfl⟩) fun vu s3 ⟨u, H3, I3, pu, w1, w2⟩ => ?_
  subst w1 w2
  refine thn (step.run pins s3 σ H3 (fun o G => o = some (-1) ∧ G = H3) I3 ⟨1, rfl, -1, rfl, rfl, rfl⟩) fun vs s4 ⟨o, H4, I4, ps, w1, w2⟩ => ?_
  subst w1 w2
  have J : Inv X pins σ H4 { s4 with heap := s4.heap.push { cls := .type "slice", data := .fields #[vl, vu, vs] } } := I4.kept (t' := s4.toks) fun b ob q => Heap.get?_push_of_some _ q
  rcases q with ⟨hx, q⟩ | ⟨hx, q⟩
  · obtain ⟨its, rv, hl, hz⟩ := J.list hx
    have hn := rv.length
    show wpAny (model X.prog X.w) X.A (subscriptTail e (.Slice none none (some (.UnaryOp .USub (.Constant (.int 1) k p1) p2)) p3) (.ref a) (.ref s4.heap.objs.size)) (EP X pins σ Q) X.xe
      { s4 with heap := s4.heap.push { cls := .type "slice", data := .fields #[vl, vu, vs] } }
    refine tail_any (ops := [.ref a, .ref s4.heap.objs.size]) hl.isList.typeIs PySem.slot_list_getitem.lookup ?_ (by with_unfolding_all rfl)
    refine wpAny_getItem_list_slice hl.isList (Heap.IsSliceOf.new _ vl vu vs) pl pu ps (by decide) ?_ (by rw [List.size_toArray]; omega)
    rw [PySem.W.krv_pick]
    refine ⟨.ref _, _, J.laid (t' := s4.toks) (o := .lst xs.reverse) (fun b ob z => Heap.get?_push_of_some _ z) (Nat.le_refl _) ?_, rfl, q _ (J.hok.fresh (Nat.le_refl _))⟩
    exact ⟨by rw [List.length_reverse]; exact hz, _, 0, rv.reverse, Heap.get?_push_size _ rfl⟩
  · obtain ⟨its, rv, hT, hz⟩ := J.tuple hx
    have hn := rv.length
    cases pl
    cases pu
    show wpAny (model X.prog X.w) X.A (subscriptTail e (.Slice none none (some (.UnaryOp .USub (.Constant (.int 1) k p1) p2)) p3) (.ref a) (.ref s4.heap.objs.size)) (EP X pins σ Q) X.xe
      { s4 with heap := s4.heap.push { cls := .type "slice", data := .fields #[.none, .none, vs] } }
    refine tail_any (ops := [.ref a, .ref s4.heap.objs.size]) hT.typeIs PyProof.Rows.slot_tuple_getitem.lookup ?_ (by with_unfolding_all rfl)
    refine back_tup hT (Heap.IsSliceOf.new _ .none .none vs) ps ?_ (by rw [List.size_toArray]; omega)
    refine ⟨.ref _, _, J.laid (t' := s4.toks) (o := .tup xs.reverse) (fun b ob z => Heap.get?_push_of_some _ z) (Nat.le_refl _) ?_, rfl, q _ (J.hok.fresh (Nat.le_refl _))⟩
    exact ⟨by rw [List.length_reverse]; exact hz, _, rv.reverse, IsTup.new _ _⟩
section
variable {g : Gx} {kk : Nat} {X : Cx} {W : WX} {ce : CE}
theorem se_rvl {a : Expr} {ta : T} {k : Nat} {p1 p2 p3 pos : Pos} (G : Good g kk X W) (ha : SE g X W a (ev ce ta)) :
    SE g X W (.Subscript a (.Slice none none (some (.UnaryOp .USub (.Constant (.int 1) k p1) p2)) p3) pos) (ev ce (.rvl ta)) := by
  intro e σ Hb H Q I h
  rw [ev] at h
  refine tW_of (pe_rv (pe_W X a)) ?_
  refine ha e σ Hb H _ I (CA.bind early_V h fun v1 e1 x1 Hb1 H1 p1 r1 h1 => ?_)
  obtain ⟨d, v, q1, q2, k⟩ := CA.op1' h1
  unfold revF at q2
  split at q2
  · cases q2
    obtain ⟨b, vs, rfl, z1, z2⟩ := r1.read p1.st q1
    exact ⟨b, vs, rfl, .inl ⟨by rw [G.hK]; exact z1, fun n hn => k _ _ _ (.temp p1.st hn) (RV.temp p1.st hn ⟨_, upd_same, z2.rev⟩)⟩⟩
  · cases q2
    obtain ⟨b, vs, rfl, z1, z2⟩ := r1.read p1.st q1
    refine ⟨b, vs, rfl, .inr ⟨by rw [G.hK]; exact p1.st.ex.sqt z1, fun n hn => ?_⟩⟩
    have hb : Hb1 n = none := p1.st.ex.back hn
    exact k _ _ _ (.new p1.st hn) ⟨n, vs.reverse, rfl, .inl (.inl upd_same), Rps.mono (.new hb) _ _ z2.rev⟩
  · cases q2
end
end Vd
/-! Vg1: repr of lists and tuples. -/
namespace Vd
open PySem PySem.Spec PyProof.Rows L2
theorem call_reprd {X : Cx} (hgd : X.A.guards = some []) : CallR X (.builtin "repr") (fun xs H Q => ∃ (a : Addr) (d : PyData), xs = [.ref a] ∧ Dp X.K H (.ref a) d ∧ d.showable = true ∧ d.hasDict = false ∧ X.A.units + (d.depth + 1) < cLine ∧ d.shown.length ≤ sizeLine ∧ Q (.str d.shown) H) := by
  intro pins s σ H xs us Q I r h
  obtain ⟨a, d, rfl, hd, h1, h2, h3, h4, q⟩ := h
  cases r with
  | cons r1 r2 =>
    cases r2
    obtain rfl := r1
    obtain ⟨as, rd⟩ := Dp.reads I d (.ref a) (.ref a) hd rfl
    exact repr_of_reads' rd h1 (PyData.noDict_hsm h2) hgd h3 (fun _ _ e => e) (fun h' u tk hk => ⟨.str d.shown, H, I.kept (t' := tk) hk, ⟨_, rfl⟩, q⟩) h4
mutual
theorem dict_py : ∀ a : D, (toPy a).hasDict = false
  | .non => rfl
  | .bl _ => rfl
  | .int _ => rfl
  | .str _ => rfl
  | .dct _ => rfl
  | .ins _ _ => rfl
  | .exc _ _ => rfl
  | .th _ => rfl
  | .lst l => by simp only [toPy, PyData.hasDict]; exact dicts_py l
  | .tup l => by simp only [toPy, PyData.hasDict]; exact dicts_py l
theorem dicts_py : ∀ a : List D, PyData.hasDictAll (toPys a) = false
  | [] => rfl
  | a :: l => by simp only [toPys, PyData.hasDictAll, dict_py a, dicts_py l, Bool.or_self]
end
section
variable {g : Gx} {kk : Nat} {X : Cx} {W : WX} {ce : CE}
theorem se_reprd {a : Expr} {ts : List T} {p pos : Pos} (G : Good g kk X W) (hgd : X.A.guards = some []) (hg : Gl X "repr") (hm : X.mg "repr" = none) (hs : [a].all noStar = true) (ha : SA g X W [a] (evs ce ts)) :
    SE g X W (.Call (.Name "repr" p) [a] [] pos) (ev ce (.bi .reprd ts)) := by
  intro e σ Hb H Q I h
  rw [ev] at h
  rw [List.all_cons, Bool.and_eq_true] at hs
  have hu := G.hu'
  refine tW_of (pe_callB (call_W X _) hg hm rfl (pa_W X _) (by decide) (by decide) (star1 hs.1 [] X.env) (plain_es (env := X.env) (pos := pos) hs.2)) ?_
  refine sa_fun (fn := fun ds => bfn .reprd ds) ha (fun ds v q => ?_) I h
  have q' : bfn .reprd ds = some v := q
  unfold bfn at q'
  split at q' <;> first | (rename_i z; cases z; done) | (rename_i z _; cases z; done) | skip
  all_goals first | (cases q'; done) | skip
  rename_i d hbb
  split at q'
  · rename_i hz
    obtain ⟨z1, z2, z3, z4⟩ := hz
    intro e σ Hb H xs Q I rs k
    obtain ⟨x, rfl, r⟩ := rs.one
    cases hv : strV (toPy d).shown with
    | none => rw [hv] at q'; cases q'
    | some w =>
      rw [hv] at q'
      cases q'
      have hd := dep_py d
      have hl : (toPy d).shown.length ≤ sizeLine := by
        unfold strV at hv
        split at hv
        · rename_i h5; rw [← line_eq]; exact h5
        · cases hv
      have key : ∀ (a : Addr), x = .ref a → Dp X.K H (.ref a) (toPy d) → cW X (.builtin "repr") [x] H Q := by
        rintro a rfl dp
        exact cW_of (call_reprd hgd) ⟨a, toPy d, rfl, dp, z4, dict_py d, by omega, hl, k _ _ _ (.refl I) (strV_rp hv)⟩
      have dp := dp_of d x z2 (r.rp I.ex)
      rw [← G.hK] at dp
      cases d <;> first | (cases z1; done) | skip
      · obtain ⟨a, vs, rfl, _, _⟩ := r.rp I.ex
        exact key a rfl dp
      · obtain ⟨a, vs, rfl, _, _⟩ := r.rp I.ex
        exact key a rfl dp
  · cases q'
end
end Vd
/-! Vd14: steps of statements. -/
namespace Vd
open PySem PySem.Spec PyProof.Rows L2
/-- what a statement keeps of the frame: lent and locked objects stay where they are -/
structure EKS (e : VE) (σ : L2.St) (e' : VE) (σ' : L2.St) : Prop where
  len : e'.length = e.length
  slen : σ'.length = σ.length
  at' : ∀ (i : Nat) (b k : Bool) (c : OC), e[i]? = some (.own b k c) → (b = true ∨ k = true) → ∃ c', e'[i]? = some (.own b k c') ∧ σ'[i]? = σ[i]? ∧ (k = true → c' = c)
theorem EKS.refl (e : VE) (σ : L2.St) : EKS e σ e σ := ⟨rfl, rfl, fun i b k c h _ => ⟨c, h, rfl, fun _ => rfl⟩⟩
theorem EKS.trans {e e1 e2 : VE} {σ σ1 σ2 : L2.St} (p : EKS e σ e1 σ1) (q : EKS e1 σ1 e2 σ2) : EKS e σ e2 σ2 := ⟨q.len.trans p.len, q.slen.trans p.slen, fun i b k c h w => by
  obtain ⟨c1, h1, s1, k1⟩ := p.at' i b k c h w
  obtain ⟨c2, h2, s2, k2⟩ := q.at' i b k c1 h1 w
  exact ⟨c2, h2, s2.trans s1, fun z => (k2 z).trans (k1 z)⟩⟩
theorem EKS.ofK {e e' : VE} (σ : L2.St) (p : EK e e') : EKS e σ e' σ := ⟨p.len, rfl, fun i b k c h w => by
  obtain ⟨s', h', r⟩ := p.at' i _ h
  cases r with
  | same => exact ⟨c, h', rfl, fun _ => rfl⟩
  | turn b c c' => exact ⟨c', h', rfl, fun z => by cases z⟩
  | frz c d => rcases w with w | w <;> cases w⟩
structure SK (g : Gx) (σ : L2.St) (Hb H : Hp) (e : VE) (σ' : L2.St) (Hb' H' : Hp) (e' : VE) : Prop where
  vp : VP (Ow g e σ) Hb H (Ow g e' σ') Hb' H'
  st : VS g Hb' e' σ' H'
  ek : EKS e σ e' σ'
theorem SK.refl {g : Gx} {σ : L2.St} {Hb H : Hp} {e : VE} (I : VS g Hb e σ H) : SK g σ Hb H e σ Hb H e := ⟨.refl, I, .refl e σ⟩
theorem SK.trans {g : Gx} {σ σ1 σ2 : L2.St} {Hb H Hb1 H1 Hb2 H2 : Hp} {e e1 e2 : VE} (p : SK g σ Hb H e σ1 Hb1 H1 e1) (q : SK g σ1 Hb1 H1 e1 σ2 Hb2 H2 e2) : SK g σ Hb H e σ2 Hb2 H2 e2 := ⟨p.vp.trans q.vp, q.st, p.ek.trans q.ek⟩
theorem PK.sk {g : Gx} {σ : L2.St} {Hb H Hb1 H1 : Hp} {e e1 : VE} (p : PK g σ Hb H e Hb1 H1 e1) : SK g σ Hb H e σ Hb1 H1 e1 := ⟨p.vp, p.st, .ofK σ p.ek⟩
/-- what is returned -/
def RVt (g : Gx) (σ0 : L2.St) (H0 : Hp) (e0 : VE) (Hb H : Hp) (e : VE) (σ : L2.St) : Ret → V → Prop
  | .p d, x => Rp g Hb d x
  | .fr c, x => ∃ a, x = .ref a ∧ (H0 a = none ∨ Ow g e0 σ0 a) ∧ Hb a = none ∧ RO g Hb H c a ∧ ¬ Ow g e σ a
theorem RVt.early {g : Gx} {σ0 σ1 σ : L2.St} {Hb0 H0 Hb1 H1 Hb H : Hp} {e0 e1 e : VE} {r : Ret} {x : V} (p : SK g σ0 Hb0 H0 e0 σ1 Hb1 H1 e1) (h : RVt g σ1 H1 e1 Hb H e σ r x) : RVt g σ0 H0 e0 Hb H e σ r x := by
  cases r with
  | p d => exact h
  | fr c =>
    obtain ⟨a, rfl, h0, h1⟩ := h
    refine ⟨a, rfl, ?_, h1⟩
    rcases h0 with h0 | h0
    · exact .inl (p.vp.t a h0)
    · rcases p.vp.s a h0 with z | z
      · exact .inr z
      · exact .inl z
/-- an outcome, told -/
def CO (g : Gx) (W : WX) (D : Ends) (σ : L2.St) (Hb H : Hp) (e : VE) (o : Out) : Prop :=
  match o with
  | .nx e' => ∀ σ' Hb' H', SK g σ Hb H e σ' Hb' H' e' → D.nx σ' H'
  | .bk e' => ∀ σ' Hb' H', SK g σ Hb H e σ' Hb' H' e' → D.bk σ' H'
  | .ct e' => ∀ σ' Hb' H', SK g σ Hb H e σ' Hb' H' e' → D.ct σ' H'
  | .rt r e' => ∀ x σ' Hb' H', SK g σ Hb H e σ' Hb' H' e' → RVt g σ H e Hb' H' e' σ' r x → D.rt x H'
  | .rz xd e' => ∀ cls d σ' Hb' H', SK g σ Hb H e σ' Hb' H' e' → RX g Hb' H' xd cls d → W cls d σ' H'
  | .no => False
section
variable {g : Gx} {kk : Nat} {X : Cx} {W : WX} {ce : CE} {Dn : Ends} {σ σ1 : L2.St} {Hb H Hb1 H1 : Hp} {e e1 : VE}
theorem CO.shift {o : Out} (p : SK g σ Hb H e σ1 Hb1 H1 e1) (h : CO g W Dn σ Hb H e o) : CO g W Dn σ1 Hb1 H1 e1 o := by
  cases o with
  | nx e' => exact fun σ' Hb' H' q => h σ' Hb' H' (p.trans q)
  | bk e' => exact fun σ' Hb' H' q => h σ' Hb' H' (p.trans q)
  | ct e' => exact fun σ' Hb' H' q => h σ' Hb' H' (p.trans q)
  | rt r e' => exact fun x σ' Hb' H' q rv => h x σ' Hb' H' (p.trans q) (rv.early p)
  | rz xd e' => exact fun cls d σ' Hb' H' q rx => h cls d σ' Hb' H' (p.trans q) rx
  | no => exact h
theorem CO.out {α β : Type} {P : Hp → Hp → Hp → VE → α → β → Prop} {r : R α} {f : α → VE → Out} {Q' : β → Hp → Prop} (h : CO g W Dn σ Hb H e (r.out f))
    (k : ∀ v e1 x Hb1 H1, PK g σ Hb H e Hb1 H1 e1 → P H Hb1 H1 e1 v x → CO g W Dn σ Hb1 H1 e1 (f v e1) → Q' x H1) : CA P g W σ Hb H e r Q' := by
  cases r with
  | ok v e1 => exact fun x Hb1 H1 pk rv => k v e1 x Hb1 H1 pk rv (CO.shift pk.sk h)
  | rz xd e' => exact fun cls d Hb' H' pk rx => h cls d σ Hb' H' pk.sk rx
  | no => exact h
theorem CO.ofO {α : Type} {o : Option α} {f : α → VE → Out} (h : CO g W Dn σ Hb H e ((Vd.ofO o e).out f)) : ∃ a, o = some a ∧ CO g W Dn σ Hb H e (f a e) := by
  cases o with
  | none => exact h.elim
  | some a => exact ⟨a, rfl, h⟩
theorem CO.ofX {o : Option VE} (h : CO g W Dn σ Hb H e (Vd.ofX o)) : ∃ e', o = some e' ∧ ∀ σ' Hb' H', SK g σ Hb H e σ' Hb' H' e' → Dn.nx σ' H' := by
  cases o with
  | none => exact h.elim
  | some a => exact ⟨a, rfl, h⟩
/-- a slot may be stored to -/
theorem putS_some {i : Nat} {s : SS} {e' : VE} (h : putS i s e = some e') : i < e.length ∧ e' = e.set i s ∧ ∀ b k c, e[i]? = some (.own b k c) → b = false ∧ k = false := by
  unfold putS at h
  split at h
  · rename_i hf
    cases h
    cases q : e[i]? with
    | none => rw [q] at hf; cases hf
    | some u =>
      rw [q] at hf
      refine ⟨(List.getElem?_eq_some_iff.mp q).1, rfl, fun b k c z => ?_⟩
      cases z
      cases b <;> cases k <;> first | (cases hf; done) | exact ⟨rfl, rfl⟩
  · cases h
theorem EKS.put (I : e.length = σ.length) {i : Nat} {s : SS} {x : V} (hn : ∀ b k c, e[i]? = some (.own b k c) → b = false ∧ k = false) : EKS e σ (e.set i s) (σ.set i (some x)) := ⟨by simp, by simp, fun j b k c h w => by
  have ne : i ≠ j := fun z => by
    subst z
    obtain ⟨rfl, rfl⟩ := hn b k c h
    rcases w with w | w <;> cases w
  exact ⟨c, by rw [List.getElem?_set_ne ne]; exact h, by rw [List.getElem?_set_ne ne], fun _ => rfl⟩⟩
theorem SK.putP (I : VS g Hb e σ H) {i : Nat} {d : D} {x : V} {e' : VE} (h : putS i (.dat d) e = some e') (r : Rp g Hb d x) : SK g σ Hb H e (σ.set i (some x)) Hb H e' := by
  obtain ⟨hi, rfl, hn⟩ := putS_some h
  have hσ : i < σ.length := by rw [← I.len]; exact hi
  have oth : ∀ (j : Nat) b k c, (e.set i (.dat d))[j]? = some (SS.own b k c) → i ≠ j ∧ e[j]? = some (.own b k c) := fun j b k c q => by
    by_cases z : i = j
    · subst z
      rw [List.getElem?_set_self hi] at q
      cases q
    · rw [List.getElem?_set_ne z] at q
      exact ⟨z, q⟩
  have ow : ∀ a, Ow g (e.set i (.dat d)) (σ.set i (some x)) a → Ow g e σ a := fun a z => by
    rcases z with z | ⟨j, b, k, c, z1, z2⟩
    · exact .inl z
    · obtain ⟨ne, q⟩ := oth j b k c z1
      rw [List.getElem?_set_ne ne] at z2
      exact .inr ⟨j, b, k, c, q, z2⟩
  refine ⟨⟨.refl _, fun _ _ q _ => q, fun _ _ q => .inl q, fun a z => .inl (ow a z), fun _ q => q, fun _ _ _ q => q⟩, ⟨by simp [I.len], I.ex, fun j d' q => ?_, fun j b k c q => ?_, fun j l b k c b' k' c' a q1 q2 s1 s2 => ?_, I.tok, I.tbn⟩, .put I.len hn⟩
  · by_cases z : i = j
    · subst z
      rw [List.getElem?_set_self hi] at q
      cases q
      exact ⟨x, List.getElem?_set_self hσ, r⟩
    · rw [List.getElem?_set_ne z] at q
      obtain ⟨v, e1, e2⟩ := I.dat j d' q
      exact ⟨v, by rw [List.getElem?_set_ne z]; exact e1, e2⟩
  · obtain ⟨ne, q⟩ := oth j b k c q
    obtain ⟨a, e1, e2⟩ := I.own j b k c q
    exact ⟨a, by rw [List.getElem?_set_ne ne]; exact e1, e2⟩
  · obtain ⟨n1, q1⟩ := oth j b k c q1
    obtain ⟨n2, q2⟩ := oth l b' k' c' q2
    rw [List.getElem?_set_ne n1] at s1
    rw [List.getElem?_set_ne n2] at s2
    exact I.inj j l b k c b' k' c' a q1 q2 s1 s2
/-- a new object gets a name -/
theorem SK.putF {σ0 : L2.St} {Hb0 H0 : Hp} {e0 : VE} (p : SK g σ0 Hb0 H0 e0 σ Hb H e) {i : Nat} {c : OC} {a : Addr} {e' : VE} (h : putS i (.own false false c) e = some e') (h0 : H0 a = none) (hb : Hb a = none) (ro : RO g Hb H c a) (no : ¬ Ow g e σ a) :
    SK g σ0 Hb0 H0 e0 (σ.set i (some (.ref a))) Hb H e' := by
  have I := p.st
  obtain ⟨hi, rfl, hn⟩ := putS_some h
  have hσ : i < σ.length := by rw [← I.len]; exact hi
  have oth : ∀ (j : Nat) b k c', (e.set i (.own false false c))[j]? = some (SS.own b k c') → (i = j ∧ b = false ∧ k = false ∧ c' = c) ∨ (i ≠ j ∧ e[j]? = some (.own b k c')) := fun j b k c' q => by
    by_cases z : i = j
    · subst z
      rw [List.getElem?_set_self hi] at q
      cases q
      exact .inl ⟨rfl, rfl, rfl, rfl⟩
    · rw [List.getElem?_set_ne z] at q
      exact .inr ⟨z, q⟩
  have ow : ∀ b, Ow g (e.set i (.own false false c)) (σ.set i (some (.ref a))) b → b = a ∨ Ow g e σ b := fun b z => by
    rcases z with z | ⟨j, b', k, c', z1, z2⟩
    · exact .inr (.inl z)
    · rcases oth j b' k c' z1 with ⟨rfl, _, _, _⟩ | ⟨ne, q⟩
      · rw [List.getElem?_set_self hσ] at z2
        cases z2; exact .inl rfl
      · rw [List.getElem?_set_ne ne] at z2
        exact .inr (.inr ⟨j, b', k, c', q, z2⟩)
  refine ⟨⟨p.vp.b, p.vp.k, p.vp.n, fun b z => ?_, p.vp.t, p.vp.f⟩, ⟨by simp [I.len], I.ex, fun j d' q => ?_, fun j b k c' q => ?_, fun j l b k c1 b' k' c2 a' q1 q2 s1 s2 => ?_, I.tok, I.tbn⟩, p.ek.trans (.put I.len hn)⟩
  · rcases ow b z with rfl | z
    · exact .inr h0
    · exact p.vp.s b z
  · by_cases z : i = j
    · subst z
      rw [List.getElem?_set_self hi] at q
      cases q
    · rw [List.getElem?_set_ne z] at q
      obtain ⟨v, e1, e2⟩ := I.dat j d' q
      exact ⟨v, by rw [List.getElem?_set_ne z]; exact e1, e2⟩
  · rcases oth j b k c' q with ⟨rfl, rfl, rfl, rfl⟩ | ⟨ne, q⟩
    · exact ⟨a, List.getElem?_set_self hσ, hb, ro⟩
    · obtain ⟨a', e1, e2⟩ := I.own j b k c' q
      exact ⟨a', by rw [List.getElem?_set_ne ne]; exact e1, e2⟩
  · rcases oth j b k c1 q1 with ⟨rfl, rfl, rfl, rfl⟩ | ⟨n1, q1⟩
    · rcases oth l b' k' c2 q2 with ⟨rfl, _, _, _⟩ | ⟨n2, q2⟩
      · rfl
      · rw [List.getElem?_set_self hσ] at s1
        cases s1
        rw [List.getElem?_set_ne n2] at s2
        exact absurd (.inr ⟨l, b', k', c2, q2, s2⟩) no
    · rcases oth l b' k' c2 q2 with ⟨rfl, _, _, _⟩ | ⟨n2, q2⟩
      · rw [List.getElem?_set_self hσ] at s2
        cases s2
        rw [List.getElem?_set_ne n1] at s1
        exact absurd (.inr ⟨j, b, k, c1, q1, s1⟩) no
      · rw [List.getElem?_set_ne n1] at s1
        rw [List.getElem?_set_ne n2] at s2
        exact I.inj j l b k c1 b' k' c2 a' q1 q2 s1 s2
/-- a value gets a name -/
theorem SK.setV {v : Val} {x : V} {i : Nat} {e' : VE} (p : PK g σ Hb H e Hb1 H1 e1) (r : RV g H Hb1 H1 e1 σ v x) (h : Vd.setV i v e1 = some e') : ∃ Hb2, SK g σ Hb H e (σ.set i (some x)) Hb2 H1 e' := by
  cases v with
  | p d => exact ⟨Hb1, p.sk.trans (.putP p.st h r)⟩
  | fr c =>
    obtain ⟨a, rfl, h0, hb, ro, no⟩ := r
    exact ⟨Hb1, SK.putF p.sk h h0 hb ro no⟩
  | vw j =>
    unfold Vd.setV at h
    dsimp only at h
    cases q : fz e1 (.vw j) with
    | none => rw [q] at h; cases h
    | some pr =>
      obtain ⟨d, e2⟩ := pr
      rw [q] at h
      obtain ⟨Hb2, p2, b2, _, s2⟩ := fz_ok p (v := .vw j) (x := x) r q
      exact ⟨Hb2, p2.sk.trans (.putP p2.st h s2)⟩

/-! ### statements -/
def tWS (X : Cx) (x : Stmt) : TS := fun D σ H => ∀ pins s, Inv X pins σ H s → wpAny (model X.prog X.w) X.A (exec x X.env) (SP X pins D) X.xe s
theorem ps_W (X : Cx) (x : Stmt) : L2.PS X x (tWS X x) := ⟨fun pins s σ H D I h => h pins s I⟩
theorem tWS_of {x : Stmt} {t : TS} (h : L2.PS X x t) {D : Ends} {σ : L2.St} {H : Hp} (q : t D σ H) : tWS X x D σ H := fun pins s I => h.run pins s σ H D I q
def tWSs (X : Cx) (x : List Stmt) : TS := fun D σ H => ∀ pins s, Inv X pins σ H s → wpAny (model X.prog X.w) X.A (execs x X.env) (SP X pins D) X.xe s
theorem pss_W (X : Cx) (x : List Stmt) : PSs X x (tWSs X x) := ⟨fun pins s σ H D I h => h pins s I⟩
theorem tWSs_of {x : List Stmt} {t : TS} (h : PSs X x t) {D : Ends} {σ : L2.St} {H : Hp} (q : t D σ H) : tWSs X x D σ H := fun pins s I => h.run pins s σ H D I q
def SS1 (g : Gx) (X : Cx) (W : WX) (x : Stmt) (m : VE → Out) : Prop := ∀ e σ Hb H D, VS g Hb e σ H → CO g W D σ Hb H e (m e) → tWS X x D σ H
def SSs (g : Gx) (X : Cx) (W : WX) (x : List Stmt) (m : VE → Out) : Prop := ∀ e σ Hb H D, VS g Hb e σ H → CO g W D σ Hb H e (m e) → tWSs X x D σ H
theorem ss_nil : SSs g X W [] (exs ce []) := by
  intro e σ Hb H D I h
  rw [exs] at h
  exact tWSs_of pss_nil (h σ Hb H (.refl I))
theorem ss_cons {x : Stmt} {l : List Stmt} {s : S} {ss : List S} (h1 : SS1 g X W x (ex ce s)) (h2 : SSs g X W l (exs ce ss)) : SSs g X W (x :: l) (exs ce (s :: ss)) := by
  intro e σ Hb H D I h
  rw [exs] at h
  refine tWSs_of (pss_cons (ps_W X x) (pss_W X l)) ?_
  refine h1 e σ Hb H _ I ?_
  cases q : ex ce s e with
  | nx e1 =>
    rw [q] at h
    exact fun σ' Hb' H' sk => h2 e1 σ' Hb' H' D sk.st (CO.shift sk h)
  | bk e1 => rw [q] at h; exact h
  | ct e1 => rw [q] at h; exact h
  | rt r e1 => rw [q] at h; exact h
  | rz xd e1 => rw [q] at h; exact h
  | no => rw [q] at h; exact h
theorem ss_one {x : Stmt} {s : S} (h1 : SS1 g X W x (ex ce s)) : SSs g X W [x] (exs ce [s]) := ss_cons h1 ss_nil
theorem ss_pass {pos : Pos} : SS1 g X W (.Pass pos) (ex ce .pas) := by
  intro e σ Hb H D I h
  rw [ex] at h
  exact tWS_of ps_pass (h σ Hb H (.refl I))
theorem ss_brk {pos : Pos} : SS1 g X W (.Break pos) (ex ce .brk) := by
  intro e σ Hb H D I h
  rw [ex] at h
  exact tWS_of ps_break (h σ Hb H (.refl I))
theorem ss_cnt {pos : Pos} : SS1 g X W (.Continue pos) (ex ce .cnt) := by
  intro e σ Hb H D I h
  rw [ex] at h
  exact tWS_of ps_continue (h σ Hb H (.refl I))
theorem ss_bad {x : Stmt} : SS1 g X W x (ex ce .bad) := by
  intro e σ Hb H D I h
  rw [ex] at h
  exact h.elim
theorem ss_exp {a : Expr} {ta : T} {pos : Pos} (ha : SE g X W a (ev ce ta)) (hs : swapsWith a none pos.line X.env = pure false) : SS1 g X W (.Expr a pos) (ex ce (.exp ta)) := by
  intro e σ Hb H D I h
  rw [ex] at h
  refine tWS_of (ps_expr (pe_W X a) hs) ?_
  exact ha e σ Hb H _ I (CO.out (P := PV g σ) h fun v1 e1 x1 Hb1 H1 p1 r1 h1 => h1 σ Hb1 H1 (.refl p1.st))
theorem ss_retn {pos : Pos} : SS1 g X W (.Return none pos) (ex ce .retn) := by
  intro e σ Hb H D I h
  rw [ex] at h
  exact tWS_of ps_retN (h .non σ Hb H (.refl I) rfl)
theorem ss_ifs {c : Expr} {a b : List Stmt} {tc : T} {ta tb : List S} {pos : Pos} (hc : ST g X W c (evT ce tc)) (ha : SSs g X W a (exs ce ta)) (hb : SSs g X W b (exs ce tb)) : SS1 g X W (.If c a b pos) (ex ce (.ifs tc ta tb)) := by
  intro e σ Hb H D I h
  rw [ex] at h
  refine tWS_of (ps_if (pt_W X c) (pss_W X a) (pss_W X b)) ?_
  refine hc e σ Hb H _ I (CO.out (P := PQ) h fun t e1 x1 Hb1 H1 p1 r1 h1 => ?_)
  subst r1
  cases x1 with
  | true => exact ha e1 σ Hb1 H1 D p1.st h1
  | false => exact hb e1 σ Hb1 H1 D p1.st h1
/-- the returned object leaves the frame -/
theorem SK.unset {i : Nat} {c : OC} {a : Addr} (p : SK g σ Hb H e σ1 Hb1 H1 e1) (h : e1[i]? = some (.own false false c)) (hs : σ1[i]? = some (some (.ref a))) : SK g σ Hb H e σ1 Hb1 H1 (e1.set i .un) ∧ ¬ Ow g (e1.set i .un) σ1 a := by
  have I := p.st
  have hi : i < e1.length := (List.getElem?_eq_some_iff.mp h).1
  have oth : ∀ (j : Nat) b k c', (e1.set i .un)[j]? = some (SS.own b k c') → i ≠ j ∧ e1[j]? = some (.own b k c') := fun j b k c' q => by
    by_cases z : i = j
    · subst z
      rw [List.getElem?_set_self hi] at q
      cases q
    · rw [List.getElem?_set_ne z] at q
      exact ⟨z, q⟩
  have ow : ∀ b, Ow g (e1.set i .un) σ1 b → Ow g e1 σ1 b := fun b z => by
    rcases z with z | ⟨j, b', k, c', z1, z2⟩
    · exact .inl z
    · exact .inr ⟨j, b', k, c', (oth j b' k c' z1).2, z2⟩
  refine ⟨⟨⟨p.vp.b, p.vp.k, p.vp.n, fun b z => p.vp.s b (ow b z), p.vp.t, p.vp.f⟩, ⟨by simp [I.len], I.ex, fun j d q => ?_, fun j b k c' q => I.own j b k c' (oth j b k c' q).2, fun j l b k c1 b' k' c2 a' q1 q2 => I.inj j l b k c1 b' k' c2 a' (oth j _ _ _ q1).2 (oth l _ _ _ q2).2, I.tok, I.tbn⟩, ⟨by simp [p.ek.len], p.ek.slen, fun j b k c' q w => ?_⟩⟩, fun z => ?_⟩
  · by_cases z : i = j
    · subst z
      rw [List.getElem?_set_self hi] at q
      cases q
    · rw [List.getElem?_set_ne z] at q
      exact I.dat j d q
  · obtain ⟨c2, h1, h2, h3⟩ := p.ek.at' j b k c' q w
    have ne : i ≠ j := fun z => by
      subst z
      rw [h] at h1; cases h1
      rcases w with w | w <;> cases w
    exact ⟨c2, by rw [List.getElem?_set_ne ne]; exact h1, h2, h3⟩
  · rcases z with z | ⟨j, b', k, c', z1, z2⟩
    · obtain ⟨a', e1', _, ro⟩ := I.own i _ _ _ h
      rw [hs] at e1'; cases e1'
      obtain ⟨u, hu, n1, _⟩ := ro.there
      obtain ⟨ps, q⟩ := (I.tbn a z).2
      rw [q] at hu; cases hu
      exact n1 ps rfl
    · obtain ⟨ne, q⟩ := oth j b' k c' z1
      exact ne (I.inj i j false false c b' k c' a h q hs z2)
theorem ss_ret {a : Expr} {ta : T} {pos : Pos} (ha : SE g X W a (ev ce ta)) : SS1 g X W (.Return (some a) pos) (ex ce (.ret ta)) := by
  intro e σ Hb H D I h
  rw [ex] at h
  refine tWS_of (ps_ret (pe_W X a)) ?_
  refine ha e σ Hb H _ I ?_
  cases q : ev ce ta e with
  | no => rw [q] at h; exact h
  | rz xd e1 => rw [q] at h; exact fun cls d Hb' H' pk rx => h cls d σ Hb' H' pk.sk rx
  | ok v e1 =>
    rw [q] at h
    intro x Hb1 H1 p1 r1
    have h1 : CO g W D σ Hb H e (retV v e1) := h
    cases v with
    | p d => exact h1 x σ Hb1 H1 p1.sk r1
    | fr c =>
      obtain ⟨ad, rfl, h0, hb, ro, no⟩ := r1
      exact h1 _ σ Hb1 H1 p1.sk ⟨ad, rfl, .inl h0, hb, ro, no⟩
    | vw i =>
      obtain ⟨hs, s, h2, n⟩ := r1
      unfold retV at h1
      dsimp only at h1
      rw [h2] at h1
      cases s with
      | un => exact absurd rfl n
      | dat d =>
        obtain ⟨y, z1, z2⟩ := p1.st.dat i d h2
        rw [hs] at z1; cases z1
        exact h1 _ σ Hb1 H1 p1.sk z2
      | own b k c =>
        cases b with
        | true => exact h1.elim
        | false =>
          cases k with
          | true => exact h1.elim
          | false =>
            obtain ⟨ad, z1, hb, ro⟩ := p1.st.own i _ _ _ h2
            rw [hs] at z1; cases z1
            obtain ⟨sk, no⟩ := SK.unset p1.sk h2 hs
            refine h1 _ σ Hb1 H1 sk ⟨ad, rfl, ?_, hb, ro, no⟩
            rcases p1.vp.s ad (.inr ⟨i, _, _, c, h2, hs⟩) with z | z
            · exact .inr z
            · exact .inl z
end
end Vd
/-! Vf6: a, b, .. = a list of that length. -/
namespace Vd
open PySem PySem.Spec PyProof.Rows L2
section
variable {prog : Program} {w : World} {A : Around} {E : Value → Shared → Prop} {s : Shared}
theorem draw_list {it t : Addr} {items : Array Value} (hne : t ≠ it) : ∀ (n i : Nat) (s : Shared) (Q : List Value → Shared → Prop), s.heap.IsListIter it t i → s.heap.IsList t items → i + n ≤ items.size →
    (∀ h' : Heap, h'.IsListIter it t (i + n) → Heap.SameBut it s.heap h' → Q ((items.toList.drop i).take n) { s with heap := h' }) → wpAny (model prog w) A (draw (.ref it) n) Q E s
  | 0, i, s, Q, hit, _, _, hQ => by
    show wpAny _ _ (pure []) Q E s
    exact wpAny_pure (by simpa using hQ s.heap hit (Heap.SameBut.refl ..))
  | n + 1, i, s, Q, hit, ht, hle, hQ => by
    have hlt : i < items.size := by omega
    show wpAny _ _ (pyNext (.ref it) >>= _) Q E s
    refine wpAny_bind (wpAny_pyNext_list_item hit ht (x := items[i]) (by simp [hlt]) fun h₁ hit₁ hs₁ => ?_)
    refine wpAny_bind (wpAny_holding (draw_list hne n (i + 1) _ _ hit₁ (ht.extBut hs₁.extBut hne) (by omega) fun h₂ hit₂ hs₂ => wpAny_pure ?_))
    have hd : items.toList.drop i = items[i] :: items.toList.drop (i + 1) := by simp [List.drop_eq_getElem_cons, hlt]
    have := hQ h₂ (by rw [show i + (n + 1) = i + 1 + n by omega]; exact hit₂) (hs₁.trans hs₂)
    rw [hd, List.take_succ_cons] at this
    exact this
theorem unpackItems_list {t : Addr} {items : Array Value} {Q : List Value → Shared → Prop} (hh : A.handled = none) (ht : s.heap.IsList t items)
    (hQ : ∀ h', Heap.ExtBut s.heap.objs.size s.heap h' → Q items.toList { s with heap := h' }) : wpAny (model prog w) A (unpackItems (.ref t) items.size none) Q E s := by
  have hlt : t ≠ s.heap.objs.size := by obtain ⟨o, ho, _⟩ := ht; exact Nat.ne_of_lt (Heap.lt_size ho)
  unfold unpackItems
  refine wpAny_bind ?_
  · unfold notIterableAtAll
    refine wpAny_bind (wpAny_specialOf ht.typeIs slot_list_iter.lookup ?_)
    refine wpAny_pure ?_
    simp only [Bool.false_eq_true, if_false]
    refine wpAny_bind (wpAny_holding (wpAny_pyIter_list ht ?_))
    refine wpAny_bind (wpAny_holding (draw_list hlt items.size 0 _ _ ⟨_, Heap.get?_push_size _ rfl, rfl, rfl⟩ (ht.push _) (by omega) fun h₁ hit₁ hs₁ => ?_))
    have hall : List.take items.size (List.drop 0 items.toList) = items.toList := by
      rw [List.drop_zero]; exact List.take_of_length_le (by simp)
    rw [hall]
    rw [if_neg (by simp)]
    have ht₁ : h₁.IsList t items := (ht.push _).extBut hs₁.extBut hlt
    refine wpAny_bind (wpAny_holding (wpAny_pyNext_list_end hh hit₁ ht₁ (by simp) fun h₂ he₂ => ?_))
    simp only [Option.isSome_none, Bool.false_eq_true, if_false]
    refine wpAny_pure (hQ h₂ fun b o hb e => he₂ b o hb (hs₁.extBut b o hb (Heap.get?_push_of_some _ e)))
theorem assign_Tuple_list {env : Env} {elts : List Expr} {x1} {pos : Pos} {t : Addr} {items : Array Value} {Q : Unit → Shared → Prop} (hh : A.handled = none) (ht : s.heap.IsList t items)
    (hn : (assignEach elts env).length = items.size) (hstar : (assignEach elts env).findIdx? (·.1) = none)
    (h : ∀ h', Heap.ExtBut s.heap.objs.size s.heap h' → wpAny (model prog w) A (assignInOrder ((assignEach elts env).map (·.2)) items.toList) Q E { s with heap := h' }) :
    wpAny (model prog w) A (assign (.Tuple elts x1 pos) env (.ref t)) Q E s := by
  rw [assign_Tuple]
  refine wpAny_bind (wpAny_standAt ?_)
  unfold unpack
  rw [hn, hstar]
  exact wpAny_bind (wpAny_holding (unpackItems_list hh ht h))
end
section
variable {X : Cx} {pos : Pos}
/-- (a, b, ..) = a list of that length -/
def gLst (K : PySem.W.Frag) (n : Nat) (t : L2.TGs) : L2.TG := fun v σ H Q => ∃ a xs, v = .ref a ∧ SqL K H a xs ∧ xs.length = n ∧ t xs σ H Q
theorem pg_lst {es : List Expr} {k : Nat} {t : L2.TGs} {n : Nat} (hc : X.calm = true) (h : PGs X es t)
    (hn : (assignEach es X.env).length = n := by rfl) (hst : (assignEach es X.env).findIdx? (·.1) = none := by rfl) : PG X (.Tuple es k pos) (gLst X.K n t) := by
  refine ⟨fun pins s σ H v u Q I r hw => ?_⟩
  obtain ⟨a, xs, e1, hq, hl, hw⟩ := hw
  subst e1
  cases r
  obtain ⟨its, rv, ht, hz⟩ := I.list hq
  obtain ⟨o, n', ho, hcl, _, hd⟩ := ht
  refine assign_Tuple_list (I.ok.hd hc) ⟨o, ho, hcl, n', hd⟩ (by simp [hn, ← hl, rv.length]) hst fun h' hx => ?_
  have I1 : Inv X pins σ H { s with heap := h' } := I.kept (t' := s.toks) fun b o e => hx b o (Nat.ne_of_lt (Heap.lt_size e)) e
  exact h.run pins _ σ H xs _ Q I1 (by simpa using rv) hw
end
end Vd
/-! Vd15: stores. -/
namespace Vd
open PySem PySem.Spec PyProof.Rows L2
section
variable {g : Gx} {kk : Nat} {X : Cx} {W : WX} {ce : CE} {σ σ1 : L2.St} {Hb H Hb1 H1 : Hp} {e e1 : VE}
/-! ### one name -/
theorem ss_setG {st : Stmt} {t : TE} {ta : T} {i : Nat} (hp : L2.PS X st (tAsg t (gName i))) (ht : ∀ e σ Hb H (Q : VK), VS g Hb e σ H → CA (PV g σ) g W σ Hb H e (ev ce ta e) Q → t σ H Q) : SS1 g X W st (ex ce (.set i ta)) := by
  intro e σ Hb H D I h
  rw [ex] at h
  refine tWS_of hp ?_
  refine ht e σ Hb H _ I ?_
  cases q : ev ce ta e with
  | no => rw [q] at h; exact h
  | rz xd e1 => rw [q] at h; exact fun cls d Hb' H' pk rx => h cls d σ Hb' H' pk.sk rx
  | ok v e1 =>
    rw [q] at h
    intro x Hb1 H1 p1 r1
    have h1 : CO g W D σ Hb H e (ofX (setV i v e1)) := h
    obtain ⟨e', q2, k⟩ := CO.ofX h1
    obtain ⟨Hb2, sk⟩ := SK.setV p1 r1 q2
    exact k _ Hb2 H1 sk
def noComp : Expr → Bool
  | .ListComp _ _ _ _ => false
  | .SetComp _ _ _ _ => false
  | .DictComp _ _ _ _ _ => false
  | _ => true
theorem sw_no {a : Expr} (h : noComp a = true) (t : Option Expr) (l : Nat) (env : Env) : swapsWith a t l env = pure false := by
  cases a <;> first | rfl | (cases h; done)
theorem ss_set {a : Expr} {ta : T} {i : Nat} {x : Str} {px pos : Pos} (G : Good g kk X W) (hi : X.N[i]? = some x) (hx : Loc X.env.scope x) (hf : X.fn x = true ∨ X.env.scope.names.lookup x = some .local) (hc : noComp a = true) (ha : SE g X W a (ev ce ta)) :
    SS1 g X W (.Assign [.Name x px] a pos) (ex ce (.set i ta)) := ss_setG (ps_set G.nd hi hx (pe_W X a) (sw_no hc _ _ _) hf) ha

/-! ### targets -/
def gW (X : Cx) (tg : Expr) : L2.TG := fun x σ H Q => ∀ pins s u, Inv X pins σ H s → RelV x u → wpAny (model X.prog X.w) X.A (assign tg X.env u) (fun _ s' => ∃ σ' H', Inv X pins σ' H' s' ∧ Q σ' H') X.xe s
theorem pg_W (X : Cx) (tg : Expr) : PG X tg (gW X tg) := ⟨fun pins s σ H v u Q I r h => h pins s u I r⟩
theorem gW_of {tg : Expr} {t : L2.TG} (h : PG X tg t) {x : V} {σ : L2.St} {H : Hp} {Q : L2.St → Hp → Prop} (q : t x σ H Q) : gW X tg x σ H Q := fun pins s u I r => h.run pins s σ H x u Q I r q
def gsW (X : Cx) (tgs : List Expr) : L2.TGs := fun xs σ H Q => ∀ pins s us, Inv X pins σ H s → Vals xs us → wpAny (model X.prog X.w) X.A (assignInOrder ((assignEach tgs X.env).map (·.2)) us) (fun _ s' => ∃ σ' H', Inv X pins σ' H' s' ∧ Q σ' H') X.xe s
theorem pgs_W (X : Cx) (tgs : List Expr) : PGs X tgs (gsW X tgs) := ⟨fun pins s σ H vs us Q I r h => h pins s us I r⟩
theorem gsW_of {tgs : List Expr} {t : L2.TGs} (h : PGs X tgs t) {xs : List V} {σ : L2.St} {H : Hp} {Q : L2.St → Hp → Prop} (q : t xs σ H Q) : gsW X tgs xs σ H Q := fun pins s us I r => h.run pins s σ H xs us Q I r q
mutual
/-- the slots of a target -/
def slots : TG → List Nat
  | .nm i => [i]
  | .tp l => slotss l
def slotss : List TG → List Nat
  | [] => []
  | t :: l => slots t ++ slotss l
end
def SG (g : Gx) (X : Cx) (tg : Expr) (G : TG) : Prop := ∀ e σ Hb H d x e' (Q : L2.St → Hp → Prop), VS g Hb e σ H → Rp g Hb d x → bindG G d e = some e' →
  (∀ σ', SK g σ Hb H e σ' Hb H e' → (∀ j : Nat, j ∉ slots G → σ'[j]? = σ[j]?) → (∀ j : Nat, j ∉ slots G → e'[j]? = e[j]?) → Q σ' H) → gW X tg x σ H Q
def SGs (g : Gx) (X : Cx) (tgs : List Expr) (Gs : List TG) : Prop := ∀ e σ Hb H ds xs e' (Q : L2.St → Hp → Prop), VS g Hb e σ H → Rps g Hb ds xs → bindGs Gs ds e = some e' →
  (∀ σ', SK g σ Hb H e σ' Hb H e' → (∀ j : Nat, j ∉ slotss Gs → σ'[j]? = σ[j]?) → (∀ j : Nat, j ∉ slotss Gs → e'[j]? = e[j]?) → Q σ' H) → gsW X tgs xs σ H Q
theorem sg_nm {i : Nat} {x : Str} {px : Pos} (hN : X.N.Nodup) (hi : X.N[i]? = some x) (hx : Loc X.env.scope x) (hf : X.fn x = true ∨ X.env.scope.names.lookup x = some .local) : SG g X (.Name x px) (.nm i) := by
  intro e σ Hb H d v e' Q I r h k
  refine gW_of (pg_name hN hi hx hf) ?_
  have h' : putS i (.dat d) e = some e' := by unfold bindG at h; exact h
  refine k _ (.putP I h' r) (fun j hj => ?_) (fun j hj => ?_)
  · unfold slots at hj
    rw [List.getElem?_set_ne (fun z => hj (by simp [z]))]
  · unfold slots at hj
    obtain ⟨_, rfl, _⟩ := putS_some h'
    rw [List.getElem?_set_ne (fun z => hj (by simp [z]))]
theorem sgs_nil : SGs g X [] [] := by
  intro e σ Hb H ds xs e' Q I r h k
  refine gsW_of pgs_nil ?_
  cases ds with
  | nil =>
    cases r
    unfold bindGs at h
    cases h
    exact ⟨rfl, k σ (.refl I) (fun _ _ => rfl) (fun _ _ => rfl)⟩
  | cons d l => unfold bindGs at h; cases h
theorem asg1 {t : Expr} (h : noStar t = true) (r : List Expr) (env : Env) : assignEach (t :: r) env = (false, assign t env) :: assignEach r env := by
  cases t <;> first | rfl | (cases h; done)
theorem sgs_cons {t : Expr} {l : List Expr} {G : TG} {Gs : List TG} (hs : noStar t = true) (h1 : SG g X t G) (h2 : SGs g X l Gs) : SGs g X (t :: l) (G :: Gs) := by
  intro e σ Hb H ds xs e' Q I r h k
  refine gsW_of (pgs_cons (pg_W X t) (pgs_W X l) (by rw [asg1 hs]; rfl)) ?_
  cases ds with
  | nil => unfold bindGs at h; cases h
  | cons d ds =>
    obtain ⟨x, xs', rfl, r1, r2⟩ := r
    unfold bindGs at h
    cases q : bindG G d e with
    | none => rw [q] at h; cases h
    | some e1 =>
      rw [q] at h
      refine ⟨x, xs', rfl, h1 e σ Hb H d x e1 _ I r1 q fun σ1 sk s1 t1 => ?_⟩
      refine h2 e1 σ1 Hb H ds xs' e' Q sk.st r2 h fun σ2 sk2 s2 t2 => k σ2 (sk.trans sk2) (fun j hj => ?_) (fun j hj => ?_)
      · unfold slotss at hj
        rw [List.mem_append, not_or] at hj
        rw [s2 j hj.2, s1 j hj.1]
      · unfold slotss at hj
        rw [List.mem_append, not_or] at hj
        rw [t2 j hj.2, t1 j hj.1]
theorem asg_len {env : Env} : ∀ {es : List Expr}, es.all noStar = true → (assignEach es env).length = es.length ∧ (assignEach es env).findIdx? (·.1) = none
  | [], _ => ⟨rfl, rfl⟩
  | a :: l, h => by
    rw [List.all_cons, Bool.and_eq_true] at h
    obtain ⟨h1, h2⟩ := asg_len (env := env) h.2
    rw [asg1 h.1]
    exact ⟨by rw [List.length_cons, List.length_cons, h1], by rw [List.findIdx?_cons, h2]; rfl⟩
theorem bindGs_len : ∀ {Gs : List TG} {ds : List D} {e e' : VE}, bindGs Gs ds e = some e' → ds.length = Gs.length
  | [], [], _, _, _ => rfl
  | [], _ :: _, _, _, h => by unfold bindGs at h; cases h
  | _ :: _, [], _, _, h => by unfold bindGs at h; cases h
  | G :: Gs, d :: ds, e, e', h => by
    unfold bindGs at h
    cases q : bindG G d e with
    | none => rw [q] at h; cases h
    | some e1 => rw [q] at h; rw [List.length_cons, List.length_cons, bindGs_len h]
theorem sg_tp {es : List Expr} {Gs : List TG} {k : Nat} {pos : Pos} (hK : X.K = g.K) (hc : X.calm = true) (hs : es.all noStar = true) (hl : es.length = Gs.length) (h : SGs g X es Gs) : SG g X (.Tuple es k pos) (.tp Gs) := by
  intro e σ Hb H d x e' Q I r hb kq
  cases d <;> first | (unfold bindG at hb; cases hb; done) | skip
  · rename_i l
    unfold bindG at hb
    obtain ⟨a, vs, rfl, h1, h2⟩ := r
    obtain ⟨z1, z2⟩ := asg_len (env := X.env) hs
    refine gW_of (pg_tup hc (pgs_W X es) z1 z2) ⟨a, vs, rfl, by rw [hK]; exact I.ex.sqt h1, by rw [h2.length, bindGs_len hb, hl], ?_⟩
    refine h e σ Hb H l vs e' Q I h2 hb fun σ' sk s1 t1 => kq σ' sk (fun j hj => s1 j ?_) (fun j hj => t1 j ?_)
    · unfold slots at hj; exact hj
    · unfold slots at hj; exact hj
  · rename_i l
    unfold bindG at hb
    obtain ⟨a, vs, rfl, h1, h2⟩ := r
    obtain ⟨z1, z2⟩ := asg_len (env := X.env) hs
    refine gW_of (pg_lst hc (pgs_W X es) z1 z2) ⟨a, vs, rfl, by rw [hK]; exact I.ex.sql h1, by rw [h2.length, bindGs_len hb, hl], ?_⟩
    refine h e σ Hb H l vs e' Q I h2 hb fun σ' sk s1 t1 => kq σ' sk (fun j hj => s1 j ?_) (fun j hj => t1 j ?_)
    · unfold slots at hj; exact hj
    · unfold slots at hj; exact hj
/-- a, b = e -/
theorem ss_unp {tgs : List Expr} {a : Expr} {Gs : List TG} {ta : T} {k : Nat} {tp pos : Pos} (hg : SG g X (.Tuple tgs k tp) (.tp Gs)) (hc : noComp a = true) (hsw : swappedStores [.Tuple tgs k tp] a X.env = pure none) (ha : SE g X W a (ev ce ta)) :
    SS1 g X W (.Assign [.Tuple tgs k tp] a pos) (ex ce (.unp (.tp Gs) ta)) := by
  intro e σ Hb H D I h
  rw [ex] at h
  refine tWS_of (ps_asg (pe_W X a) (pg_W X _) (sw_no hc _ _ _) hsw rfl) ?_
  refine ha e σ Hb H _ I ?_
  cases q : ev ce ta e with
  | no => rw [q] at h; exact h
  | rz xd e1 => rw [q] at h; exact fun cls d Hb' H' pk rx => h cls d σ Hb' H' pk.sk rx
  | ok v e1 =>
    rw [q] at h
    intro x Hb1 H1 p1 r1
    have h1 : CO g W D σ Hb H e ((ofP (fz e1 v)).out fun d e => ofX (bindG (.tp Gs) d e)) := h
    cases q2 : fz e1 v with
    | none => rw [q2] at h1; exact h1.elim
    | some pr =>
      obtain ⟨d, e2⟩ := pr
      rw [q2] at h1
      obtain ⟨e', q3, kq⟩ := CO.ofX (show CO g W D σ Hb H e (ofX (bindG (.tp Gs) d e2)) from h1)
      obtain ⟨Hb2, p2, b2, k2⟩ := RVs.keep (vs := [v]) (xs := [x]) p1 ⟨x, [], rfl, r1, rfl, fun _ _ j c' z => by simp at z⟩
      obtain ⟨y, r, ey, k3, er⟩ := k2
      cases er; cases ey
      obtain ⟨Hb3, p3, b3, _, s3⟩ := fz_ok p2 k3 q2
      exact hg e2 σ Hb3 H1 d x e' _ p3.st s3 q3 fun σ' sk _ _ => kq σ' Hb3 H1 (p3.sk.trans sk)

/-! ### a, b = x, y -/
/-- values, none of them a view -/
def NVs (g : Gx) (H0 Hb H : Hp) (e : VE) (σ : L2.St) : List Val → List V → Prop
  | [], xs => xs = []
  | v :: l, xs => ∃ x r, xs = x :: r ∧ ((∃ d, v = .p d ∧ Rp g Hb d x) ∨ ∃ c a, v = .fr c ∧ x = .ref a ∧ H0 a = none ∧ Hb a = none ∧ RO g Hb H c a ∧ ¬ Ow g e σ a ∧ ∀ (j : Nat) c', l[j]? = some (Val.fr c') → r[j]? ≠ some x) ∧ NVs g H0 Hb H e σ l r
def setAll : List Nat → List V → L2.St → L2.St
  | i :: is, x :: xs, σ => setAll is xs (σ.set i (some x))
  | _, _, σ => σ
theorem NVs.ow {H0 : Hp} {e2 : VE} {σ2 : L2.St} : ∀ {vs : List Val} {xs : List V}, NVs g H0 Hb H e σ vs xs → (∀ (j : Nat) c a, vs[j]? = some (Val.fr c) → xs[j]? = some (V.ref a) → Ow g e2 σ2 a → Ow g e σ a) → NVs g H0 Hb H e2 σ2 vs xs
  | [], _, h, _ => h
  | v :: l, _, h, k => by
    obtain ⟨x, r, rfl, h1, h2⟩ := h
    refine ⟨x, r, rfl, ?_, NVs.ow h2 fun j c a z z' => k (j + 1) c a (by simpa using z) (by simpa using z')⟩
    rcases h1 with h1 | ⟨c, a, rfl, rfl, z1, z2, z3, z4, z5⟩
    · exact .inl h1
    · exact .inr ⟨c, a, rfl, rfl, z1, z2, z3, fun w => z4 (k 0 c a rfl rfl w), z5⟩
theorem setVs_ok {σ0 : L2.St} {Hb0 H0 : Hp} {e0 : VE} : ∀ {is : List Nat} {vs : List Val} {xs : List V} {e : VE} {σ : L2.St} {e' : VE}, SK g σ0 Hb0 H0 e0 σ Hb H e → NVs g H0 Hb H e σ vs xs → setVs is vs e = some e' → SK g σ0 Hb0 H0 e0 (setAll is xs σ) Hb H e'
  | [], [], xs, e, σ, e', sk, _, h => by unfold setVs at h; cases h; exact sk
  | [], _ :: _, _, _, _, _, _, _, h => by unfold setVs at h; cases h
  | _ :: _, [], _, _, _, _, _, _, h => by unfold setVs at h; cases h
  | i :: is, v :: vs, xs, e, σ, e', sk, nv, h => by
    obtain ⟨x, r, rfl, h1, h2⟩ := nv
    unfold setVs at h
    cases q : Vd.setV i v e with
    | none => rw [q] at h; cases h
    | some e2 =>
      rw [q] at h
      show SK g σ0 Hb0 H0 e0 (setAll is r (σ.set i (some x))) Hb H e'
      have len := sk.st.len
      rcases h1 with ⟨d, rfl, r1⟩ | ⟨c, a, rfl, rfl, z1, z2, z3, z4, z5⟩
      · have q' : putS i (.dat d) e = some e2 := q
        have sk1 := SK.putP sk.st q' r1
        refine setVs_ok (sk.trans sk1) (h2.ow fun j c a w w' ow => ?_) h
        obtain ⟨hi, rfl, hn⟩ := putS_some q'
        rcases ow with ow | ⟨j', b, k, c', y1, y2⟩
        · exact .inl ow
        · by_cases z : i = j'
          · subst z
            rw [List.getElem?_set_self hi] at y1; cases y1
          · rw [List.getElem?_set_ne z] at y1 y2
            exact .inr ⟨j', b, k, c', y1, y2⟩
      · have q' : putS i (.own false false c) e = some e2 := q
        have sk1 := SK.putF sk q' z1 z2 z3 z4
        refine setVs_ok sk1 (h2.ow fun j c2 a2 w w' ow => ?_) h
        obtain ⟨hi, rfl, hn⟩ := putS_some q'
        rcases ow with ow | ⟨j', b, k, c', y1, y2⟩
        · exact .inl ow
        · by_cases z : i = j'
          · subst z
            rw [List.getElem?_set_self (by rw [← len]; exact hi)] at y2
            cases y2
            exact absurd w' (z5 j c2 w)
          · rw [List.getElem?_set_ne z] at y1 y2
            exact .inr ⟨j', b, k, c', y1, y2⟩
theorem NVs.step {H0 : Hp} (p : PK g σ Hb H e Hb1 H1 e1) : ∀ {vs : List Val} {xs : List V}, NVs g H0 Hb H e σ vs xs → NVs g H0 Hb1 H1 e1 σ vs xs
  | [], _, h => h
  | v :: l, _, h => by
    obtain ⟨x, r, rfl, h1, h2⟩ := h
    refine ⟨x, r, rfl, ?_, NVs.step p h2⟩
    rcases h1 with ⟨d, rfl, r1⟩ | ⟨c, a, rfl, rfl, z1, z2, z3, z4, z5⟩
    · exact .inl ⟨d, rfl, Rp.mono p.vp.b d _ r1⟩
    · obtain ⟨a', ea, _, y1, y2, y3⟩ := RV.step (v := .fr c) (H0 := H0) ⟨a, rfl, z1, z2, z3, z4⟩ p
      cases ea
      exact .inr ⟨c, a, rfl, rfl, z1, y1, y2, y3, z5⟩
theorem fzVs_fr {l : List Val} : ∀ {e : VE} {vs : List Val} {e' : VE} {j : Nat} {c : OC}, fzVs l e = some (vs, e') → vs[j]? = some (Val.fr c) → l[j]? = some (Val.fr c) := by
  induction l with
  | nil => intro e vs e' j c h z; cases h; simp at z
  | cons v l ih =>
    intro e vs e' j c h z
    unfold fzVs at h
    cases q : fzV e v with
    | none => rw [q] at h; cases h
    | some pr =>
      obtain ⟨w, e1⟩ := pr
      rw [q] at h
      dsimp only [Option.bind] at h
      cases q2 : fzVs l e1 with
      | none => rw [q2] at h; cases h
      | some pr =>
        obtain ⟨ws, e2⟩ := pr
        rw [q2] at h
        cases h
        cases j with
        | zero =>
          simp at z
          subst z
          cases v with
          | p d => cases q
          | fr c' => cases q; rfl
          | vw i =>
            exfalso
            have q' : (fz e (.vw i)).map (fun p => (Val.p p.1, p.2)) = some (Val.fr c, e1) := q
            cases q3 : fz e (.vw i) with
            | none => rw [q3] at q'; cases q'
            | some y => rw [q3] at q'; cases q'
        | succ j => exact ih q2 (by simpa using z)
theorem fzVs_ok {σ : L2.St} {Hb0 H0 : Hp} {e0 : VE} : ∀ {vs : List Val} {xs : List V} {Hb : Hp} {e : VE} {ws : List Val} {e' : VE}, PK g σ Hb0 H0 e0 Hb H e → RVs g H0 Hb H e σ vs xs → fzVs vs e = some (ws, e') → ∃ Hb', PK g σ Hb0 H0 e0 Hb' H e' ∧ PK g σ Hb H e Hb' H e' ∧ NVs g H0 Hb' H e' σ ws xs
  | [], _, Hb, e, ws, e', p, r, h => by cases h; exact ⟨Hb, p, .refl p.st, r⟩
  | v :: l, _, Hb, e, ws, e', p, r, h => by
    obtain ⟨x, xs, rfl, r1, r2, r3⟩ := r
    unfold fzVs at h
    cases q : fzV e v with
    | none => rw [q] at h; cases h
    | some y =>
      obtain ⟨w, e1⟩ := y
      rw [q] at h
      dsimp only [Option.bind] at h
      cases q' : fzVs l e1 with
      | none => rw [q'] at h; cases h
      | some y =>
        obtain ⟨ws1, e2⟩ := y
        rw [q'] at h
        cases h
        have frs : ∀ (j : Nat) c', ws1[j]? = some (Val.fr c') → l[j]? = some (Val.fr c') := fun j c' z => fzVs_fr q' z
        cases v with
        | p d =>
          cases q
          obtain ⟨Hb1, p1, p2, s⟩ := fzVs_ok p r2 q'
          exact ⟨Hb1, p1, p2, x, xs, rfl, .inl ⟨d, rfl, Rp.mono p2.vp.b d x r1⟩, s⟩
        | fr c =>
          cases q
          obtain ⟨Hb1, p1, p2, s⟩ := fzVs_ok p r2 q'
          obtain ⟨a, rfl, y0, y1, y2, y3⟩ := RV.step r1 p2
          exact ⟨Hb1, p1, p2, _, xs, rfl, .inr ⟨c, a, rfl, rfl, y0, y1, y2, y3, fun j c' z => r3 c rfl j c' (frs j c' z)⟩, s⟩
        | vw i =>
          have q0 : (fz e (.vw i)).map (fun p => (Val.p p.1, p.2)) = some (w, e1) := q
          cases q3 : fz e (.vw i) with
          | none => rw [q3] at q0; cases q0
          | some y =>
            obtain ⟨d, e3⟩ := y
            rw [q3] at q0
            cases q0
            obtain ⟨Hb1, p1, b1, _, s1⟩ := fz_ok (.refl p.st) (v := .vw i) (x := x) r1 q3
            obtain ⟨Hb2, p2, p3, s⟩ := fzVs_ok (p.trans p1) (RVs.step p1 r2) q'
            exact ⟨Hb2, p2, p1.trans p3, x, xs, rfl, .inl ⟨d, rfl, Rp.mono p3.vp.b d x s1⟩, s⟩
theorem par_run {es : List Expr} {ts : List T} {is : List Nat} {D : Ends} (ha : SA g X W es (evs ce ts)) (I : VS g Hb e σ H) (h : CO g W D σ Hb H e (ex ce (.par is ts) e)) :
    tWA X es σ H fun xs H1 => xs.length = ts.length ∧ D.nx (setAll is xs σ) H1 := by
  rw [ex] at h
  refine ha e σ Hb H _ I ?_
  cases q : evs ce ts e with
  | no => rw [q] at h; exact h
  | rz xd e1 => rw [q] at h; exact fun cls d Hb' H' pk rx => h cls d σ Hb' H' pk.sk rx
  | ok vs e1 =>
    rw [q] at h
    intro xs Hb1 H1 p1 r1
    have h1 : CO g W D σ Hb H e ((ofP (fzVs vs e1)).out fun vs e => ofX (setVs is vs e)) := h
    cases q2 : fzVs vs e1 with
    | none => rw [q2] at h1; exact h1.elim
    | some pr =>
      obtain ⟨ws, e2⟩ := pr
      rw [q2] at h1
      obtain ⟨e', q3, kq⟩ := CO.ofX (show CO g W D σ Hb H e (ofX (setVs is ws e2)) from h1)
      obtain ⟨Hb2, p2, p3, nv⟩ := fzVs_ok p1 r1 q2
      exact ⟨by rw [r1.length, evs_len q], kq _ Hb2 H1 (setVs_ok p2.sk nv q3)⟩
theorem ss_par2 {i j : Nat} {x y : Str} {a b : Expr} {ta tb : T} {px py pt pt2 pos : Pos} {kt k2 : Nat} (G : Good g kk X W) (hk : 0 < kk) (hi : X.N[i]? = some x) (hj : X.N[j]? = some y) (hij : i ≠ j) (hx : X.env.scope.names.lookup x = some .local) (hy : X.env.scope.names.lookup y = some .local)
    (hw : swappedStores [.Tuple [.Name x px, .Name y py] kt pt] (.Tuple [a, b] k2 pt2) X.env = pure (some [x, y])) (ha : SA g X W [a, b] (evs ce [ta, tb])) :
    SS1 g X W (.Assign [.Tuple [.Name x px, .Name y py] kt pt] (.Tuple [a, b] k2 pt2) pos) (ex ce (.par [i, j] [ta, tb])) := by
  intro e σ Hb H D I h
  refine tWS_of (ps_par (G.calm hk) G.nd hi hj hij hx hy (pa_W X [a, b]) hw rfl) ?_
  intro pos pins s J
  refine thn (par_run ha I h pos pins s J) fun us s' ⟨xs, H', J', r, hl, q⟩ => ⟨xs, H', J', r, ?_⟩
  match xs, hl, q with
  | [u, v], _, q => exact ⟨u, v, rfl, q⟩
theorem ss_par3 {i j l : Nat} {x y z : Str} {a b c : Expr} {ta tb tc : T} {px py pz pt pt2 pos : Pos} {kt k2 : Nat} (G : Good g kk X W) (hk : 0 < kk) (hi : X.N[i]? = some x) (hj : X.N[j]? = some y) (hl : X.N[l]? = some z) (hij : i ≠ j) (hil : i ≠ l) (hjl : j ≠ l)
    (hx : X.env.scope.names.lookup x = some .local) (hy : X.env.scope.names.lookup y = some .local) (hz : X.env.scope.names.lookup z = some .local)
    (hw : swappedStores [.Tuple [.Name x px, .Name y py, .Name z pz] kt pt] (.Tuple [a, b, c] k2 pt2) X.env = pure (some [x, y, z])) (ha : SA g X W [a, b, c] (evs ce [ta, tb, tc])) :
    SS1 g X W (.Assign [.Tuple [.Name x px, .Name y py, .Name z pz] kt pt] (.Tuple [a, b, c] k2 pt2) pos) (ex ce (.par [i, j, l] [ta, tb, tc])) := by
  intro e σ Hb H D I h
  refine tWS_of (L2.ps_par3 (G.calm hk) G.nd hi hj hl hij hil hjl hx hy hz (pa_W X [a, b, c]) hw rfl) ?_
  intro pos pins s J
  refine thn (par_run ha I h pos pins s J) fun us s' ⟨xs, H', J', r, hl, q⟩ => ⟨xs, H', J', r, ?_⟩
  match xs, hl, q with
  | [u, v, w], _, q => exact ⟨u, v, w, rfl, q⟩

/-! ### o[i] = v -/
def kW (X : Cx) : TSet := fun o i v H Q => ∀ pins s σ ov iv u, Inv X pins σ H s → RelV o ov → RelV i iv → RelV v u → wpAny (model X.prog X.w) X.A (setItem ov iv u) (fun _ s' => ∃ H', Inv X pins σ H' s' ∧ Q H') X.xe s
theorem set_W (X : Cx) : PSet X (kW X) := fun pins s σ H o i v ov iv u Q I ro ri rv h => h pins s σ ov iv u I ro ri rv
theorem kW_of {r : TSet} (h : PSet X r) {o i v : V} {H : Hp} {Q : Hp → Prop} (q : r o i v H Q) : kW X o i v H Q := fun pins s σ ov iv u I ro ri rv => h pins s σ H o i v ov iv u Q I ro ri rv q
theorem set_dict (hu : X.A.units + 1 < cLine) : PSet X (fun o i v H Q => ∃ a H', o = .ref a ∧ DPut H a i v H' ∧ Q H') := by
  intro pins s σ H o i v ov iv u Q I ro ri rv h
  obtain ⟨a, H', rfl, hp, q⟩ := h
  obtain rfl : ov = Value.ref a := ro
  exact d_setItem hu I hp ri rv fun s' I' => ⟨H', I', q⟩
theorem ss_sub {a b v : Expr} {ta tb tv : T} {p2 pos : Pos} (G : Good g kk X W) (hc : noComp v = true) (hb : noSlice b = true) (hsw : swappedStores [.Subscript a b p2] v X.env = pure none) (hv : SE g X W v (ev ce tv)) (ha : SE g X W a (ev ce ta)) (hi : SE g X W b (ev ce tb)) :
    SS1 g X W (.Assign [.Subscript a b p2] v pos) (ex ce (.sub ta tb tv)) := by
  intro e σ Hb H Dn I h
  rw [ex] at h
  have hg : PG X (.Subscript a b p2) (gSub (tW X a) (tW X b) (kW X)) := pg_sub (pe_W X a) (pe_W X b) (set_W X) (by
    intro v
    cases b <;> first | rfl | (cases hb; done))
  refine tWS_of (ps_asg (pos := pos) (pe_W X v) hg (sw_no hc (some (.Subscript a b p2)) pos.line X.env) hsw rfl) ?_
  refine hv e σ Hb H _ I ?_
  cases q : ev ce tv e with
  | no => rw [q] at h; exact h
  | rz xd e1 => rw [q] at h; exact fun cls d Hb' H' pk rx => h cls d σ Hb' H' pk.sk rx
  | ok w e1 =>
    rw [q] at h
    intro x Hb1 H1 p1 r1
    -- the value is there; the object, the index
    have h1 : CO g W Dn σ Hb H e ((ev ce ta e1).out fun x e => (ev ce tb e).out fun y e => ofX (subV x y w e)) := h
    refine ha e1 σ Hb1 H1 _ p1.st ?_
    cases q2 : ev ce ta e1 with
    | no => rw [q2] at h1; exact h1
    | rz xd e2 => rw [q2] at h1; exact fun cls d Hb' H' pk rx => h1 cls d σ Hb' H' (p1.trans pk).sk rx
    | ok o e2 =>
      rw [q2] at h1
      intro y Hb2 H2 p2 r2
      have h2 : CO g W Dn σ Hb H e ((ev ce tb e2).out fun y e => ofX (subV o y w e)) := h1
      refine hi e2 σ Hb2 H2 _ p2.st ?_
      cases q3 : ev ce tb e2 with
      | no => rw [q3] at h2; exact h2
      | rz xd e3 => rw [q3] at h2; exact fun cls d Hb' H' pk rx => h2 cls d σ Hb' H' ((p1.trans p2).trans pk).sk rx
      | ok ii e3 =>
        rw [q3] at h2
        intro z Hb3 H3 p3 r3
        obtain ⟨e', q4, kq⟩ := CO.ofX (show CO g W Dn σ Hb H e (ofX (subV o ii w e3)) from h2)
        cases o with
        | p d => cases q4
        | fr c => cases q4
        | vw i =>
          unfold subV at q4
          dsimp only at q4
          cases q5 : fz e3 w with
          | none => rw [q5] at q4; cases q4
          | some pr =>
            obtain ⟨d, e4⟩ := pr
            rw [q5] at q4
            dsimp only [Option.bind] at q4
            -- all three kept
            have r1' := (RV.step r1 p2).step p3
            have pall := (p1.trans p2).trans p3
            obtain ⟨Hb4, p4, b4, k4⟩ := RVs.keep (vs := [w]) (xs := [x]) pall ⟨x, [], rfl, r1', rfl, fun _ _ j c' z => by simp at z⟩
            obtain ⟨x', r, ex', k4, er⟩ := k4
            cases er; cases ex'
            obtain ⟨Hb5, p5, b5, ek5, s5⟩ := fz_ok p4 k4 q5
            -- the place
            have r2' : RV g H1 Hb3 H3 e3 σ (.vw i) y := RV.step r2 p3
            have hσ := r2'.1
            cases q6 : e4[i]? with
            | none => rw [q6] at q4; cases q4
            | some si =>
              rw [q6] at q4
              cases si with
              | un => cases q4
              | dat d' => cases q4
              | own b k c =>
                obtain ⟨ad, y1, _, ro⟩ := p5.st.own i b k c q6
                rw [hσ] at y1
                cases y1
                -- the index, read at the end
                have idx : ∀ {dz : D}, rd e4 ii = some dz → RR g Hb5 H3 dz z := by
                  intro dz hz
                  cases ii with
                  | p d0 => cases hz; exact RR.of p5.st.ex (Rp.mono (b4.trans b5) _ _ r3)
                  | vw j =>
                    obtain ⟨w1, s, w2, w3⟩ := r3
                    have hz' : (e4[j]?).bind SS.rd = some dz := hz
                    cases q7 : e4[j]? with
                    | none => rw [q7] at hz'; cases hz'
                    | some sj =>
                      rw [q7] at hz'
                      cases sj with
                      | un => cases hz'
                      | dat d0 =>
                        cases hz'
                        obtain ⟨v0, y1, y2⟩ := p5.st.dat j _ q7
                        rw [w1] at y1; cases y1
                        exact RR.of p5.st.ex y2
                      | own b0 k0 c0 =>
                        cases hz'
                        obtain ⟨a0, y1, _, y2⟩ := p5.st.own j _ _ _ q7
                        rw [w1] at y1; cases y1
                        exact RR.ofO y2
                  | fr c0 =>
                    exfalso
                    -- a new list as an index: never
                    cases c0 <;> (cases hz; cases b <;> cases k <;> cases c <;> simp [rd, OC.toD, keyOf] at q4)
                cases k with
                | true => cases b <;> cases c <;> simp at q4
                | false =>
                  cases c with
                  | oi c fs => simp at q4
                  | fd l => simp at q4
                  | ol l =>
                    cases q7 : rd e4 ii with
                    | none => rw [q7] at q4; simp at q4
                    | some dz =>
                      rw [q7] at q4
                      cases dz <;> first | (simp at q4; done) | skip
                      rename_i kx
                      simp only [Option.map] at q4
                      have iz : z = .int kx := idx q7
                      subst iz
                      obtain ⟨vs, hh, rp⟩ := ro
                      cases q8 : ixn l.length kx with
                      | none => rw [q8] at q4; cases q4
                      | some jx =>
                        rw [q8] at q4
                        cases q4
                        refine kW_of set_list ⟨ad, vs, kx, jx, rfl, rfl, hh, by rw [rp.length]; exact q8, ?_⟩
                        exact kq σ Hb5 _ (p5.trans (.write p5.st q6 hσ (c' := .ol (l.set jx d)) ⟨_, upd_same, rp.set jx s5⟩)).sk
                  | od l =>
                    cases q7 : rd e4 ii with
                    | none => rw [q7] at q4; simp at q4
                    | some dz =>
                      rw [q7] at q4
                      simp only at q4
                      cases q8 : keyOf dz with
                      | none => rw [q8] at q4; cases q4
                      | some kx =>
                        rw [q8] at q4
                        dsimp only [Option.bind] at q4
                        split at q4
                        · rename_i hlt
                          cases q4
                          have iz : z = kV (kT kx) := key_V q8 ((idx q7).rp p5.st.ex)
                          subst iz
                          obtain ⟨kvs, hh, rp⟩ := ro
                          have hu : X.A.units + 1 < cLine := by have := G.hu; omega
                          refine kW_of (set_dict hu) ⟨ad, _, rfl, .k hh (by rw [rpk_len rp, ← line_eq]; exact hlt), ?_⟩
                          exact kq σ Hb5 _ (p5.trans (.write p5.st q6 hσ (c' := .od (putD l kx d)) ⟨_, upd_same, rpk_put s5 rp⟩)).sk
                        · cases q4
end
end Vd
/-! Ve4: try .. except: the exception that was caught is a tracked object from then on. -/
namespace Vd
open PySem PySem.Spec PyProof.Rows L2
/-- the context of an except suite -/
abbrev hotCx (X : Cx) (a : Addr) : Cx := { X with A := X.A.mark (some (.ref a)), calm := false, xe := fun _ _ => False }
section
variable {X : Cx} {pins : List (Addr × Obj)} {σ : L2.St} {H : Hp} {s : Shared} {a : Addr}
theorem ok_hot (ok : X.Ok) : (hotCx X a).Ok where
  mod := ok.mod
  kind := ok.kind
  glob := ok.glob
  blt := ok.blt
  above := ok.above
  inj := ok.inj
  has := ok.has
  cab := ok.cab
  hd := fun z => Bool.noConfusion (show false = true from z)
  frames := ok.frames
  stk := ok.stk
  exf := ok.exf
  bs := ok.bs
  bsz := ok.bsz
  noex := ok.noex
  exfs := ok.exfs
  funs := ok.funs
  frf := ok.frf
theorem inv_hot (I : Inv X pins σ H s) : Inv (hotCx X a) pins σ H s := { ok := ok_hot I.ok, os := I.os, bare := I.bare, base := I.base, loc := I.loc, cell := I.cell, free := I.free, freeC := I.freeC, pin := I.pin, hok := I.hok, len := I.len }
theorem inv_cold (I : Inv (hotCx X a) pins σ H s) (ok : X.Ok) : Inv X pins σ H s := { ok := ok, os := I.os, bare := I.bare, base := I.base, loc := I.loc, cell := I.cell, free := I.free, freeC := I.freeC, pin := I.pin, hok := I.hok, len := I.len }
theorem exH_own {C : Value} {d : Option Addr} {x : Addr} : exH a C d ≠ .own x := fun z => by
  unfold exH at z; cases z
theorem exH_ok {P : Program} {w : World} {h : Heap} {oe : Obj} {vs : Array Value} {C : Value} {d : Option Addr} (e : h.get? a = some oe) (h1 : oe.cls = C) (h2 : oe.dict = d) (h3 : oe.data = .fields vs) : ObjOk P w H h a (exH a C d) :=
  ⟨⟨oe, vs, e, h1, h2, h3⟩, ⟨oe, e⟩, fun g1 g2 ⟨o, us, q1, q2, q3, q4⟩ k => ⟨o, us, k _ q1, q2, q3, q4⟩⟩
/-- a known object that nobody tracks is tracked from now on -/
theorem inv_track {oe : Obj} {vs : Array Value} {C : Value} {d : Option Addr} (I : Inv X pins σ H s) (e : s.heap.get? a = some oe) (h1 : oe.cls = C) (h2 : oe.dict = d) (h3 : oe.data = .fields vs) (na : H a = none) (nL : a ≠ X.env.locals) (n0 : X.s_0.heap.get? a = none)
    (np : ∀ p ∈ X.pn ++ pins, p.1 ≠ a) : Inv X pins σ (upd H a (exH a C d)) s where
  ok := I.ok
  os := I.os
  bare := I.bare
  base := {
    keep := fun b o q n hf hx => I.base.keep b o q n hf hx
    slot := fun b o q n hf hx => I.base.slot b o q n hf hx
    free := fun b o q n hx => by
      have ne : b ≠ a := fun z => by rw [z, n0] at q; cases q
      rw [upd_ne ne]
      exact I.base.free b o q n hx
    there := fun b o q hx => I.base.there b o q hx
    tups := fun b xs q => by
      have t := I.base.tups b xs q
      rw [upd_ne (ne_of_none t na)]; exact t
    frzs := fun b o u q => by
      have t := I.base.frzs b o u q
      rw [upd_ne (ne_of_none t na)]; exact t
    tbls := fun b ps q => by
      obtain ⟨m, t⟩ := I.base.tbls b ps q
      exact ⟨m, by rw [upd_ne (ne_of_none t na)]; exact t⟩ }
  loc := I.loc
  cell := I.cell
  free := by rw [upd_ne (Ne.symm nL)]; exact I.free
  freeC := fun y c q => by
    obtain ⟨v, o, z1, z2⟩ := I.cell y c q
    have ne : c ≠ a := fun z => by
      rw [z, e] at z1; cases z1
      rw [h3] at z2; cases z2
    rw [upd_ne ne]; exact I.freeC y c q
  pin := fun p hp => by
    obtain ⟨q1, q2, q3⟩ := I.pin p hp
    exact ⟨q1, by rw [upd_ne (np p hp)]; exact q2, q3⟩
  hok := fun b o q => by
    by_cases z : b = a
    · subst z
      rw [upd_same] at q; cases q
      exact exH_ok e h1 h2 h3
    · rw [upd_ne z] at q
      exact (I.hok b o q).stay (fun _ _ _ q => q) (fun c hc => by rw [upd_ne (ne_of_none hc na)]; exact hc) (fun c xs hc => by rw [upd_ne (ne_of_none hc na)]; exact hc)
  len := I.len
end
/-- what a suite reads, by the exception, its class, its dict -/
abbrev TSX := Addr → Value → Option Addr → TS
def endsAs : Option Nat → Ends → Ends
  | none, D => D
  | some i, D => { nx := fun σ' H' => D.nx (σ'.set i none) H', rt := D.rt, bk := fun σ' H' => D.bk (σ'.set i none) H', ct := fun σ' H' => D.ct (σ'.set i none) H' }
def slotAs : Option Nat → Addr → L2.St → L2.St
  | none, _, σ => σ
  | some i, a, σ => σ.set i (some (.ref a))
def wCat (K : PySem.W.Frag) (Wout : WX) (D : Ends) : List (Value × Option Nat × TSX) → WX
  | [] => Wout
  | (c, o, ts) :: r => fun cls d σ H => ∃ b, PySem.W.exmOne K cls c = some b ∧ (b = true → ∀ a, H a = none → ts a cls d (endsAs o D) (slotAs o a σ) (upd H a (exH a cls d))) ∧ (b = false → wCat K Wout D r cls d σ H)
inductive Cats (X : Cx) : List ExceptHandler → List (Value × Option Nat × TSX) → Prop
  | nil : Cats X [] []
  | only {x : Str} {c : Value} {ts : TSX} {b₀ : Stmt} {suite : List Stmt} {np q : Pos} {hds : List ExceptHandler} {l : List (Value × Option Nat × TSX)} (hc : Names X x c) (hsu : ∀ a cls d, PSs (hotCx X a) (b₀ :: suite) (ts a cls d)) (r : Cats X hds l) :
      Cats X (.ExceptHandler (some (.Name x np)) none (b₀ :: suite) q :: hds) ((c, none, ts) :: l)
  | as {x n : Str} {i : Nat} {c : Value} {ts : TSX} {b₀ : Stmt} {suite : List Stmt} {np q : Pos} {hds : List ExceptHandler} {l : List (Value × Option Nat × TSX)} (hc : Names X x c) (hN : X.N.Nodup) (hi : X.N[i]? = some n) (hl : X.env.kindOf n = some .local) (hsu : ∀ a cls d, PSs (hotCx X a) (b₀ :: suite) (ts a cls d)) (r : Cats X hds l) :
      Cats X (.ExceptHandler (some (.Name x np)) (some n) (b₀ :: suite) q :: hds) ((c, some i, ts) :: l)
section
variable {X : Cx} {body : List Stmt} {h0 : ExceptHandler} {hds : List ExceptHandler} {l : List (Value × Option Nat × TSX)} {tpos : Pos} {tb : WX → TS} {Wo : WX}
theorem ps_catch (hs : X.stack = X.env :: X.outer) (hf : X.env.frame = some X.env.locals) (hex : X.ex = []) (tk : Takes X Wo)
    (hb : ∀ (W : WX) (pn : List (Addr × Obj)) (xe : Value → Shared → Prop), Takes (X.tr pn xe) W → PassesOwn (model X.prog X.w) X.A X.env xe → PSs (X.tr pn xe) body (tb W)) (hh : Cats X (h0 :: hds) l) :
    PS X (.Try body (h0 :: hds) [] [] tpos) (fun D σ H => tb (wCat X.K Wo D l) D σ H) := by
  refine ⟨fun pins s σ H D I h => ?_⟩
  have xok := I.ok
  have afr : X.A.frames = some (X.env :: X.outer) := by rw [xok.frames, hs]
  refine wpAny_Try_except ?_
  have bd := (hb (wCat X.K Wo D l) (X.pn ++ pins) (fun e s1 => wpAny (model X.prog X.w) X.A (noteFrame e X.env) (fun _ s2 => wpAny (model X.prog X.w) X.A (setFlight e none) (fun _ s3 => wpAny (model X.prog X.w) X.A (handleBy e X.env (h0 :: hds)) (SP X pins D) X.xe s3) X.xe s2) X.xe s1) (fun u s1 air => ?_) PassesOwn.looking).run [] s σ H D (I.toTry _) h
  · refine wpAny_mono bd (fun fl s1 z => ?_) fun _ _ z => z
    cases fl with
    | next =>
      obtain ⟨σ1, H1, J, q⟩ := z
      exact wpAny_execs_nil ⟨σ1, H1, J.ofTry xok, q⟩
    | brk =>
      obtain ⟨σ1, H1, J, q⟩ := z
      exact ⟨σ1, H1, J.ofTry xok, q⟩
    | cont =>
      obtain ⟨σ1, H1, J, q⟩ := z
      exact ⟨σ1, H1, J.ofTry xok, q⟩
    | ret u =>
      obtain ⟨v, σ1, H1, J, r, q⟩ := z
      exact ⟨v, σ1, H1, J.ofTry xok, r, q⟩
  · obtain ⟨a, B, sI, pinsI, σI, HI, cls, d, rfl, JI, nb, up, sky, na, os, ag, w⟩ := air
    have J : Inv X pins σI HI sI := JI.ofTry xok
    rw [hs] at sky
    change wpAny (model X.prog X.w) X.A (noteFrame (.ref a) X.env) _ _ _
    refine Sky.land Zc.steady afr hf sky fun g1 fl1 up1 => ?_
    have J1 : Inv X pins σI HI { s1 with heap := g1 } := J.landed nb fl1.1 (up.trans up1) os ag
    obtain ⟨o1, vs1, e1, z1, d1⟩ := fl1.there
    have notf : a ∉ frs (X.env :: X.outer) := fun hm => by
      obtain ⟨_, o', e', nf⟩ := fl1.2.2.1.mem hm
      rw [e1] at e'; cases e'
      exact nf _ d1
    have nL : a ≠ X.env.locals := fun z => notf (List.mem_filterMap.mpr ⟨X.env, List.mem_cons_self, by rw [hf, z]⟩)
    have inB : ∀ b o, sI.heap.get? b = some o → b ∉ frs (X.env :: X.outer) → b ≠ a := fun b o q hm z => by
      have t := nb b o q (by rw [hs]; exact hm)
      rw [z, fl1.2.1] at t; cases t
    have n0 : X.s_0.heap.get? a = none := by
      cases q : X.s_0.heap.get? a with
      | none => rfl
      | some o =>
        obtain ⟨o', q'⟩ := J.base.there a o q (by rw [hex]; simp)
        exact absurd rfl (inB a o' q' notf)
    have np : ∀ p ∈ X.pn ++ pins, p.1 ≠ a := fun p hp => by
      obtain ⟨q1, q2, q3, q4, q5⟩ := J.pin p hp
      refine inB _ _ q1 fun hm => ?_
      have : p.1 ∈ X.env.locals :: X.fs := by
        have := hm
        unfold frs at this
        rw [List.filterMap_cons, hf] at this
        exact this
      rcases List.mem_cons.mp this with z | z
      · exact q3 z
      · exact q4 z
    have go : ∀ {hs' : List ExceptHandler} {l' : List (Value × Option Nat × TSX)}, Cats X hs' l' → wCat X.K Wo D l' cls d σI HI → wpAny (model X.prog X.w) X.A (handleBy (.ref a) X.env hs') (SP X pins D) X.xe { s1 with heap := g1 } := by
      have LT : PySem.W.Looks (model X.prog X.w) g1 (typeOf (.ref a)) cls := fun A Q E s k q => wpAny_typeOf_ref (k _ _ e1) (by rw [z1.1]; exact q)
      have nameOk : ∀ {x : Str} {c : Value} {np : Pos} {Q : Value → Shared → Prop} {E : Value → Shared → Prop}, Names X x c → Q c { s1 with heap := g1 } → wpAny (model X.prog X.w) (X.A.mark (some (.ref a))) (eval (.Name x np) X.env) Q E { s1 with heap := g1 } := fun {x c np Q E} hc q => by
        obtain ⟨hg, hdb, hm | ⟨hm, hv, hnn⟩⟩ := hc
        · exact ld_glob (X := hotCx X a) (inv_hot J1) hg hm q hdb
        · exact ld_blt (X := hotCx X a) (inv_hot J1) hg hm hv q hnn hdb
      have land : ∀ g2, HandSPX.FlyingZ B (X.env :: X.outer) a (Zc cls d) g2 → g1.UpToSlots g2 → Inv (hotCx X a) pins σI (upd HI a (exH a cls d)) { s1 with heap := g2 } := fun g2 fl2 up2 => by
        have J2 : Inv X pins σI HI { s1 with heap := g2 } := J.landed nb fl2.1 ((up.trans up1).trans up2) os ag
        obtain ⟨o2, vs2, e2, z2, d2⟩ := fl2.there
        exact inv_hot (inv_track J2 e2 z2.1 z2.2 d2 na nL n0 np)
      intro hs' l' hk
      induction hk with
      | nil =>
        intro w
        refine wpAny_handleBy_nil ?_
        obtain ⟨_, _, _, oe, vs, T, oT, ts', he, hz, hd, h1, hr⟩ := id fl1
        unfold PySem.passOn
        refine wpAny_bind (wpAny_field he hd h1 ?_)
        rw [if_neg (by simp)]
        have out : wpAny (model X.prog X.w) X.A (setFlight (.ref a) X.env.frame) (fun _ s4 => wpAny (model X.prog X.w) X.A (throw (.ref a) : Sem Flow) (SP X pins D) X.xe s4) X.xe { s1 with heap := g1 } := by
          rw [hf]
          exact HandSPX.setFlight_upZ fl1 fun g4 hh4 up4 => wpAny_throw (tk _ _ ⟨a, B, sI, pins, σI, HI, cls, d, rfl, J, nb, (up.trans up1).trans up4, .inr (.inr (by rw [hs]; exact hh4)), na, os, ag, w⟩)
        first
          | exact wpAny_bind (wpAny_pure (wpAny_bind out))
          | exact wpAny_bind out
      | @only x c ts b₀ suite np q hds2 l2 hc hsu r ih =>
        intro w
        obtain ⟨b, q1, yes, no⟩ := w
        refine wpAny_handleBy_cons (codeAny_handlers_test ?_) (by intro q; cases q)
        refine nameOk hc ((PySem.W.exm_one (M := model X.prog X.w) J1.kIn LT q1).here ?_)
        cases b with
        | false =>
          change wpAny _ X.A (handleBy (.ref a) X.env hds2) _ _ _
          exact ih (no rfl)
        | true =>
          refine codeAny_handlers_suite ?_
          refine HandSPX.lands_againZ fl1 fun g2 fl2 up2 => ?_
          refine wpAny_mono ((hsu a cls d).run pins _ _ _ _ (land g2 fl2 up2) (yes rfl a na)) (fun fl s6 z => ?_) (fun _ _ z => False.elim z)
          cases fl with
          | next =>
            obtain ⟨σ6, H6, J6, q6⟩ := z
            exact ⟨_, _, inv_cold J6 xok, q6⟩
          | brk =>
            obtain ⟨σ6, H6, J6, q6⟩ := z
            exact ⟨_, _, inv_cold J6 xok, q6⟩
          | cont =>
            obtain ⟨σ6, H6, J6, q6⟩ := z
            exact ⟨_, _, inv_cold J6 xok, q6⟩
          | ret u =>
            obtain ⟨v6, σ6, H6, J6, r6, q6⟩ := z
            exact ⟨_, _, _, inv_cold J6 xok, r6, q6⟩
      | @as x n i c ts b₀ suite np q hds2 l2 hc hN hi hl hsu r ih =>
        intro w
        obtain ⟨b, q1, yes, no⟩ := w
        refine wpAny_handleBy_cons (codeAny_handlers_test ?_) (by intro q; cases q)
        refine nameOk hc ((PySem.W.exm_one (M := model X.prog X.w) J1.kIn LT q1).here ?_)
        cases b with
        | false =>
          change wpAny _ X.A (handleBy (.ref a) X.env hds2) _ _ _
          exact ih (no rfl)
        | true =>
          refine codeAny_handlers_suite_as ?_
          refine HandSPX.lands_againZ fl1 fun g2 fl2 up2 => ?_
          refine store_ok (X := hotCx X a) (v := .ref a) (land g2 fl2 up2) hN hi (.inl hl) rfl (fun s5 J5 => ?_) (.inr hl)
          have gone : ∀ {σ6 : L2.St} {H6 : Hp} {s6 : Shared} {Q : Shared → Prop}, Inv (hotCx X a) pins σ6 H6 s6 → (∀ s7, Inv X pins (σ6.set i none) H6 s7 → Q s7) →
              wpAny (model X.prog X.w) X.A (do bindName X.env n .none; unbindBehindTheSuite X.env n q) (fun _ s7 => Q s7) X.xe s6 := fun {σ6 H6 s6 Q} J6 hq => gone_ok (inv_cold J6 xok) hN hi hl hq
          refine wpAny_mono ((hsu a cls d).run pins _ _ _ _ J5 (yes rfl a na)) (fun fl s6 z => ?_) (fun _ _ z => False.elim z)
          cases fl with
          | next =>
            obtain ⟨σ6, H6, J6, q6⟩ := z
            exact gone J6 fun s7 J7 => ⟨_, _, J7, q6⟩
          | brk =>
            obtain ⟨σ6, H6, J6, q6⟩ := z
            exact gone J6 fun s7 J7 => ⟨_, _, J7, q6⟩
          | cont =>
            obtain ⟨σ6, H6, J6, q6⟩ := z
            exact gone J6 fun s7 J7 => ⟨_, _, J7, q6⟩
          | ret u =>
            obtain ⟨v6, σ6, H6, J6, r6, q6⟩ := z
            exact gone J6 fun s7 J7 => ⟨_, _, _, J7, r6, q6⟩
    exact go hh w
end
end Vd
/-! Vf1: a lambda is made: nothing but its table is changed. -/
namespace Vd
open PySem PySem.Spec PyProof.Rows L2 LamX
/-- but for the table at P all is as it was -/
structure Bt (P : Addr) (H H1 : Hp) : Prop where
  k : ∀ b o, b ≠ P → H b = some o → H1 b = some o
  t : ∀ b, H1 b = none → H b = none
/-- the lambda's object -/
abbrev laO (X : Cx) (ar : Arguments) (body : Expr) (sc : Scope) (pm : Value) (c' : Addr) (ct : Value) : Obj :=
  PySem.W.kla_obj "<lambda>" (X.env.qual ++ "<lambda>") ar body sc
    (cloFrom X.env.cells sc.names []) pm c' ct
section
variable {X : Cx} {pins : List (Addr × Obj)} {σ : L2.St} {H : Hp} {s : Shared}
theorem tabs_push {T : List (Addr × Str)} {P c' : Addr} {q : Str} {ps : Array Value} {pos : Pos} (hT : Tabs T H) (hP : H P = some (.tbl ps)) (ht : TriplesOk ps.toList) (nC : H c' = none) (hu : ∀ p ∈ T, p.1 = P → p.2 = q) :
    Tabs T (upd (upd H P (.tbl (ps ++ #[rawInt pos.line, rawInt pos.col, .ref c']))) c' (CodeO c' q)) := fun p hp => by
  obtain ⟨ps', a1, a2, a3⟩ := hT p hp
  have nPc : P ≠ c' := ne_of_none hP nC
  have np : p.1 ≠ c' := ne_of_none a1 nC
  have up : ∀ (c0 : Addr) (q0 : Str), H c0 = some (CodeO c0 q0) →
      upd (upd H P (.tbl (ps ++ #[rawInt pos.line, rawInt pos.col, .ref c']))) c' (CodeO c' q) c0 = some (CodeO c0 q0) := fun c0 q0 e => by
    have n1 : c0 ≠ c' := ne_of_none e nC
    have n2 : c0 ≠ P := fun z => by
      rw [z, hP] at e
      exact codeO_ne ps (Option.some.inj e).symm
    rw [upd_ne n1, upd_ne n2]
    exact e
  by_cases hb : p.1 = P
  · have e2 := hu p hp hb
    rw [hb, hP] at a1
    cases a1
    refine ⟨ps ++ #[rawInt pos.line, rawInt pos.col, .ref c'], ?_, ?_, ?_⟩
    · rw [hb, upd_ne nPc, upd_same]
    · rw [Array.toList_append]
      exact PySem.TriplesOk_snoc _ _ _ _ ht
    · intro p' cv hcv
      rw [Array.toList_append] at hcv
      rcases among_app _ ht hcv with z | z
      · obtain ⟨c0, e1, e3⟩ := a3 p' cv z
        exact ⟨c0, e1, up _ _ e3⟩
      · subst z
        exact ⟨c', rfl, by rw [e2, upd_same]⟩
  · refine ⟨ps', by rw [upd_ne np, upd_ne hb]; exact a1, a2, fun p' cv hcv => ?_⟩
    obtain ⟨c0, e1, e3⟩ := a3 p' cv hcv
    exact ⟨c0, e1, up _ _ e3⟩
theorem la_make {T : List (Addr × Str)} {c P : Addr} {ar : Arguments} {body : Expr} {sc : Scope} {pos : Pos} {E Q : Value → Shared → Prop} (I : Inv X pins σ H s) (TB : TabB X.base X.mg c P) (hc0 : X.env.code = .ref c)
    (hm : (P, X.env.qual ++ "<lambda>") ∈ T) (hu : ∀ p ∈ T, p.1 = P → p.2 = X.env.qual ++ "<lambda>") (hT : Tabs T H) (hd : defaultsOf ar X.env = ([], [])) (hf : ∀ y ∈ sc.names, y.2 = .free → ∃ c, X.env.cells.lookup y.1 = some c)
    (h : ∀ (f c' : Addr) (pm ct : Value) (H1 : Hp) (s' : Shared), Inv X pins σ H1 s' → Bt P H H1 → Tabs T H1 → s'.heap.get? f = some (laO X ar body sc pm c' ct) → H1 f = none → f ∉ frs X.stack →
      H1 c' = some (CodeO c' (X.env.qual ++ "<lambda>")) → Q (.ref f) s') :
    wpAny (model X.prog X.w) X.A (eval (.Lambda ar body sc pos) X.env) Q E s := by
  obtain ⟨ps, hP, ht, ha⟩ := hT _ hm
  have hP' : s.heap.get? P = some { cls := .none, data := .fields ps } := I.hok P _ hP
  have bP : s.heap.BuiltinsAt X.mg P := TB.bm.keeps I.bk
  have cK := TB.code.keeps I.bk
  have nofr : ∀ f, s.heap.objs.size ≤ f → f ∉ frs X.stack := fun f hle z => by
    rcases List.mem_cons.mp (I.stkSub _ z) with e | e
    · have := I.lt
      rw [← e] at this
      exact absurd (Nat.lt_of_lt_of_le this hle) (Nat.lt_irrefl _)
    · exact I.nofs hle e
  refine PySem.W.kla_eval hd ?_
  cases hc : codeAmong pos ps.toList with
  | some cv =>
    obtain ⟨c', rfl, hco⟩ := ha pos cv hc
    refine PySem.W.kla_makeFunctionHit (mg := X.mg) (c := c) (P := P) (ps := ps)
      (closure_ok hf) I.ok.glob (I.mod.glob.keeps I.bk) hc0 cK hP' ht hc bP fun ct h' tk hx hsz => ?_
    have I1 : Inv X pins σ H { s with heap := h'.push (laO X ar body sc ((X.mg "__name__").getD .none) c' ct), toks := tk } :=
      I.kept fun b o e => Heap.get?_push_of_some _ (hx b o e)
    exact h h'.objs.size c' _ ct H _ I1 ⟨fun _ _ _ e => e, fun _ e => e⟩ hT
      (Heap.get?_push_size _ rfl) (I.hok.fresh hsz) (nofr _ hsz) hco
  | none =>
    refine PySem.W.kla_makeFunction (mg := X.mg) (c := c) (P := P) (ps := ps)
      (closure_ok hf) I.ok.glob (I.mod.glob.keeps I.bk) hc0 cK hP' ht hc TB.gP bP fun c' ct h' tk hx hge hlt hrec htb => ?_
    obtain ⟨c2, oc, vs, t, e2, hoc, hdt, hv⟩ := hrec
    cases e2
    have nC : H c' = none := I.hok.fresh hge
    have hsz : s.heap.objs.size ≤ h'.objs.size := Nat.le_trans hge (Nat.le_of_lt hlt)
    have I1 := inv_table (t' := tk) (more := #[rawInt pos.line, rawInt pos.col, .ref c'])
      (h' := h'.push (laO X ar body sc ((X.mg "__name__").getD .none) c' ct)) I hP
      (fun b o hb e => Heap.get?_push_of_some _ (hx b o hb e))
      (Heap.get?_push_of_some _ htb) hge
      ⟨oc, vs, t, Heap.get?_push_of_some _ hoc, hdt, hv⟩
    refine h h'.objs.size c' _ ct _ _ I1 ⟨fun b o hb e => ?_, fun b e => ?_⟩ (tabs_push hT hP ht nC hu)
      (Heap.get?_push_size _ rfl) ?_ (nofr _ hsz) upd_same
    · rw [upd_ne (ne_of_none e nC), upd_ne hb]
      exact e
    · by_cases z : b = c'
      · rw [z, upd_same] at e; cases e
      · rw [upd_ne z] at e
        by_cases y : b = P
        · rw [y, upd_same] at e; cases e
        · rw [upd_ne y] at e; exact e
    · have n1 : h'.objs.size ≠ c' := Nat.ne_of_gt hlt
      have n2 : h'.objs.size ≠ P := Nat.ne_of_gt (Nat.lt_of_lt_of_le (Heap.lt_size hP') hsz)
      rw [upd_ne n1, upd_ne n2]
      exact I.hok.fresh hsz
end
end Vd
/-! Vd15b: raise. -/
namespace Vd
open PySem PySem.Spec PyProof.Rows L2
/-- what is known of a class of exceptions that is raised: its own __init__ -/
structure RseF (P : Program) (w : World) (K : PySem.W.Frag) (mg : Str → Option Value) (base : Heap) (g : Gx) (ce : CE) (x : Str) (c : Nat) : Prop where
  gl : mg x = some (.ref (g.ca c))
  cv : g.cv c = .ref (g.ca c)
  ox : OexC K (g.ca c)
  ini : ∃ (fI : Addr) (fd : FuncData), PySem.W.findIn K (.ref (g.ca c)) "__init__" = some (some (.ref fI)) ∧ PySem.W.typeIn K (.ref fI) = some (.type "function") ∧ FnOk P w K mg base (L2.CX P w) 1 fI fd (("self" : Str) :: (ce.flds c).map g.fl) (spInit (g.ca c) ((ce.flds c).map g.fl)) ∧ Binds K fd (("self" : Str) :: (ce.flds c).map g.fl) []
section
variable {g : Gx} {kk : Nat} {X : Cx} {W : WX} {ce : CE}
theorem rpf_app {H : Hp} : ∀ {a b : List (Nat × D)} {u v : List (Str × V)}, Rpf g H a u → Rpf g H b v → Rpf g H (a ++ b) (u ++ v)
  | [], _, _, _, h, k => by cases h; exact k
  | (n, d) :: a, b, u, v, h, k => by
    obtain ⟨x, r, rfl, h1, h2⟩ := h
    exact ⟨x, r ++ v, rfl, h1, rpf_app h2 k⟩
theorem rpf_zip {H : Hp} : ∀ {ns : List Nat} {ds : List D} {vs : List V}, Rps g H ds vs → Rpf g H ((ns.zip ds).reverse) (((ns.map g.fl).zip vs).reverse)
  | [], _, _, _ => rfl
  | _ :: _, [], _, h => by cases h; rfl
  | n :: ns, d :: ds, _, h => by
    obtain ⟨x, r, rfl, h1, h2⟩ := h
    simp only [List.map_cons, List.zip_cons_cons, List.reverse_cons]
    exact rpf_app (rpf_zip h2) ⟨x, [], rfl, h1, rfl⟩
/-- raise C(..) -/
theorem ss_rse {e1 : Expr} {es : List Expr} {ts : List T} {x : Str} {c : Nat} {p pos pos' : Pos} (G : Good g kk X W) (hk : 2 ≤ kk - 1) (hk0 : 0 < kk) (F : RseF X.prog X.w X.K X.mg X.base g ce x c) (hg : Gl X x) (hdb : (x == ("__debug__" : Str)) = false)
    (n1 : starEach (e1 :: es) X.env = (false, eval e1 X.env) :: starEach es X.env) (n2 : (backTo pos (starEach es X.env)).any (·.1) = false) (ha : SA g X W (e1 :: es) (evs ce ts)) :
    SS1 g X W (.Raise (some (.Call (.Name x p) (e1 :: es) [] pos)) none pos') (ex ce (.rse c ts)) := by
  intro e σ Hb H Dn I h
  rw [ex] at h
  obtain ⟨fI, fd, f1, f2, f3, f4⟩ := F.ini
  refine tWS_of (ps_raise (G.calm hk0) G.tk (pmk_oex F.ox f1 f2 f3 ((G.rm hk0).mono hk) f4 .nil passL hg F.gl (pa_W X (e1 :: es)) hdb n1 n2)) ?_
  refine ha e σ Hb H _ I ?_
  cases q0 : evs ce ts e with
  | no => rw [q0] at h; exact h
  | rz xd e1 => rw [q0] at h; exact fun cls d Hb' H' pk rx => h cls d σ Hb' H' pk.sk rx
  | ok vs e1' =>
  rw [q0] at h
  intro xs Hb1 H1 p1 r1
  have h1 : CO g W Dn σ Hb H e ((ofP (fzs vs e1')).out fun ds e => rseF ce c ds e) := h
  cases q : fzs vs e1' with
  | none => rw [q] at h1; exact h1.elim
  | some pr =>
    obtain ⟨ds, e2⟩ := pr
    rw [q] at h1
    have h1 : CO g W Dn σ Hb H e (rseF ce c ds e2) := h1
    obtain ⟨Hbk, pk, bk, rk⟩ := r1.keep p1
    obtain ⟨Hb2, p2, ex2, rp⟩ := fzs_ok pk rk q
    unfold rseF at h1
    split at h1
    · rename_i hz
      obtain ⟨z1, z2, z3⟩ := hz
      have hl := rp.length
      refine ⟨by omega, fun a na => ?_⟩
      refine ⟨a, xs, by simp, by rw [hl, z1, List.length_map], upd_same, fun z => ?_, fun _ dx hdx nda => ?_⟩
      · have : (ce.flds c).length = 0 := by
          have := congrArg List.length z
          simpa using this
        rw [this] at z1
        exact absurd (List.length_eq_zero_iff.mp z1) z2
      · rw [upd_ne nda] at hdx
        refine ⟨rfl, dx, _, ?_, upd_same, hdx, ?_⟩
        · rw [upd_ne (Ne.symm nda), upd_same]
        · have eH : upd (del (upd (upd (upd H1 a (exo a (g.ca c) none)) a (exo a (g.ca c) (some dx))) dx (exd dx ((((ce.flds c).map g.fl).zip xs).reverse))) a) dx (.xd ((((ce.flds c).map g.fl).zip xs).reverse)) = upd H1 dx (.xd ((((ce.flds c).map g.fl).zip xs).reverse)) := by
            funext b
            by_cases y : b = dx
            · rw [y, upd_same, upd_same]
            · rw [upd_ne y, upd_ne y]
              by_cases y2 : b = a
              · rw [y2, del_same, na]
              · rw [del_ne y2, upd_ne y, upd_ne y2, upd_ne y2]
          rw [eH]
          have hbd := p2.st.ex.back hdx
          refine h1 _ _ σ (upd Hb2 dx (.xd ((((ce.flds c).map g.fl).zip xs).reverse))) _ ?_ ⟨F.cv.symm, ((((ce.flds c).map g.fl).zip xs).reverse), upd_same, ?_⟩
          · exact (p2.trans (.new p2.st hdx)).sk
          · exact rpf_zip (Rps.mono (.new hbd) _ _ rp)
    · exact h1.elim
end
end Vd
/-! Vd16: loops. -/
namespace Vd
open PySem PySem.Spec PyProof.Rows L2
/-! ### locks -/
theorem lock_lock (b c : Bool) (s : SS) : (s.lock b).lock c = s.lock c := by cases s <;> rfl
theorem modAll_at (h : Nat → SS → SS) (hh : ∀ i s, h i (h i s) = h i s) (j : Nat) : ∀ (l : List Nat) (e : VE), (l.foldl (fun e i => e.modify i (h i)) e)[j]? = if j ∈ l then (e[j]?).map (h j) else e[j]?
  | [], e => by simp
  | i :: l, e => by
    rw [List.foldl_cons, modAll_at h hh j l]
    by_cases z : i = j
    · subst z
      rw [if_pos (List.mem_cons_self)]
      cases q : e[i]? with
      | none =>
        have : (e.modify i (h i))[i]? = none := by rw [List.getElem?_modify, q]; rfl
        rw [this]; split <;> rfl
      | some s =>
        rw [mod_eq q]
        split
        · simp [hh]
        · rfl
    · rw [mod_ne z]
      by_cases m : j ∈ l
      · rw [if_pos m, if_pos (List.mem_cons_of_mem _ m)]
      · rw [if_neg m, if_neg (by simp only [List.mem_cons, not_or]; exact ⟨fun w => z w.symm, m⟩)]
theorem modAll_len (h : Nat → SS → SS) : ∀ (l : List Nat) (e : VE), (l.foldl (fun e i => e.modify i (h i)) e).length = e.length
  | [], e => rfl
  | i :: l, e => by rw [List.foldl_cons, modAll_len h l]; simp
theorem lockE_at (l : List Nat) (e : VE) (j : Nat) : (lockE l e)[j]? = if j ∈ l then (e[j]?).map (SS.lock true) else e[j]? := modAll_at (fun _ => SS.lock true) (fun _ s => lock_lock true true s) j l e
theorem unlockE_at (e0 : VE) (l : List Nat) (e : VE) (j : Nat) : (unlockE e0 l e)[j]? = if j ∈ l then (e[j]?).map (SS.lock ((e0[j]?).elim false SS.lk)) else e[j]? :=
  modAll_at (fun i => SS.lock ((e0[i]?).elim false SS.lk)) (fun _ s => lock_lock _ _ s) j l e
theorem lockE_len (l : List Nat) (e : VE) : (lockE l e).length = e.length := modAll_len _ l e
theorem unlockE_len (e0 : VE) (l : List Nat) (e : VE) : (unlockE e0 l e).length = e.length := modAll_len _ l e
/-- the same up to locks -/
structure RLK (e e' : VE) : Prop where
  len : e'.length = e.length
  at' : ∀ (j : Nat), ∃ b, e'[j]? = (e[j]?).map (SS.lock b) ∨ e'[j]? = e[j]?
theorem RLK.lock (l : List Nat) (e : VE) : RLK e (lockE l e) := ⟨lockE_len l e, fun j => ⟨true, by rw [lockE_at]; split; exact .inl rfl; exact .inr rfl⟩⟩
theorem RLK.unlock (e0 : VE) (l : List Nat) (e : VE) : RLK e (unlockE e0 l e) := ⟨unlockE_len e0 l e, fun j => ⟨(e0[j]?).elim false SS.lk, by rw [unlockE_at]; split; exact .inl rfl; exact .inr rfl⟩⟩
theorem RLK.own {e e' : VE} (p : RLK e e') {j : Nat} {b k : Bool} {c : OC} (h : e'[j]? = some (.own b k c)) : ∃ k0, e[j]? = some (.own b k0 c) := by
  obtain ⟨b', z⟩ := p.at' j
  rcases z with z | z
  · rw [h] at z
    cases q : e[j]? with
    | none => rw [q] at z; cases z
    | some s =>
      rw [q] at z
      cases s with
      | un => cases z
      | dat d => cases z
      | own b0 k0 c0 => cases z; exact ⟨k0, rfl⟩
  · exact ⟨k, by rw [← z]; exact h⟩
theorem RLK.own' {e e' : VE} (p : RLK e e') {j : Nat} {b k : Bool} {c : OC} (h : e[j]? = some (.own b k c)) : ∃ k0, e'[j]? = some (.own b k0 c) := by
  obtain ⟨b', z⟩ := p.at' j
  rw [h] at z
  rcases z with z | z
  · exact ⟨b', z⟩
  · exact ⟨k, z⟩
theorem RLK.dat {e e' : VE} (p : RLK e e') {j : Nat} {d : D} (h : e'[j]? = some (.dat d)) : e[j]? = some (.dat d) := by
  obtain ⟨b', z⟩ := p.at' j
  rcases z with z | z
  · rw [h] at z
    cases q : e[j]? with
    | none => rw [q] at z; cases z
    | some s =>
      rw [q] at z
      cases s with
      | un => cases z
      | dat d => cases z; rfl
      | own b0 k0 c0 => cases z
  · rw [← z]; exact h
section
variable {g : Gx} {kk : Nat} {X : Cx} {W : WX} {ce : CE} {Dn : Ends} {σ σ1 : L2.St} {Hb H Hb1 H1 : Hp} {e e1 e0 : VE}
theorem RLK.ow {e' : VE} (p : RLK e e') : Ow g e' σ = Ow g e σ := by
  funext a
  apply propext
  constructor
  · rintro (z | ⟨i, b, k, c, z1, z2⟩)
    · exact .inl z
    · obtain ⟨k0, z⟩ := p.own z1; exact .inr ⟨i, b, k0, c, z, z2⟩
  · rintro (z | ⟨i, b, k, c, z1, z2⟩)
    · exact .inl z
    · obtain ⟨k0, z⟩ := p.own' z1; exact .inr ⟨i, b, k0, c, z, z2⟩
theorem VS.relock {e' : VE} (p : RLK e e') (I : VS g Hb e σ H) : VS g Hb e' σ H :=
  ⟨by rw [p.len]; exact I.len, I.ex, fun i d h => I.dat i d (p.dat h), fun i b k c h => let ⟨k0, z⟩ := p.own h; I.own i b k0 c z,
    fun i j b k c b' k' c' a h h' s s' => let ⟨k0, z⟩ := p.own h; let ⟨k1, z'⟩ := p.own h'; I.inj i j b k0 c b' k1 c' a z z' s s', I.tok, I.tbn⟩
/-- a step of the locked frame is one of the frame -/
theorem SK.unlock {l : List Nat} {σ' : L2.St} {Hb' H' : Hp} {e' : VE} (p : SK g σ Hb H (lockE l e0) σ' Hb' H' e') : SK g σ Hb H e0 σ' Hb' H' (unlockE e0 l e') := by
  have r1 := RLK.lock l e0
  have r2 := RLK.unlock e0 l e'
  refine ⟨by rw [r2.ow, ← r1.ow (σ := σ)]; exact p.vp, p.st.relock r2, ⟨by rw [unlockE_len, p.ek.len, lockE_len], p.ek.slen, fun i b k c h w => ?_⟩⟩
  by_cases m : i ∈ l
  · have h1 : (lockE l e0)[i]? = some (.own b true c) := by rw [lockE_at, if_pos m, h]; rfl
    obtain ⟨c', z1, z2, z3⟩ := p.ek.at' i b true c h1 (.inr rfl)
    refine ⟨c', ?_, z2, fun _ => z3 rfl⟩
    rw [unlockE_at, if_pos m, z1, h]
    rfl
  · have h1 : (lockE l e0)[i]? = some (.own b k c) := by rw [lockE_at, if_neg m, h]
    obtain ⟨c', z1, z2, z3⟩ := p.ek.at' i b k c h1 w
    exact ⟨c', by rw [unlockE_at, if_neg m]; exact z1, z2, z3⟩
theorem CO.unlock {l : List Nat} {o : Out} (h : CO g W Dn σ Hb H e0 (o.unlock e0 l)) : CO g W Dn σ Hb H (lockE l e0) o := by
  cases o with
  | nx e' => exact fun σ' Hb' H' p => h σ' Hb' H' p.unlock
  | bk e' => exact fun σ' Hb' H' p => h σ' Hb' H' p.unlock
  | ct e' => exact fun σ' Hb' H' p => h σ' Hb' H' p.unlock
  | rz xd e' => exact fun cls d σ' Hb' H' p rx => h cls d σ' Hb' H' p.unlock rx
  | no => exact h
  | rt r e' =>
    intro x σ' Hb' H' p rv
    refine h x σ' Hb' H' p.unlock ?_
    cases r with
    | p d => exact rv
    | fr c =>
      obtain ⟨a, rfl, h0, h1, h2, h3⟩ := rv
      exact ⟨a, rfl, h0.imp id fun z => by rw [← (RLK.lock l e0).ow]; exact z, h1, h2, by rw [(RLK.unlock e0 l e').ow]; exact h3⟩
/-- the iterables are as they were -/
theorem itas_read : ∀ {vs : List Val} {ds : List D} {xs : List V}, ItAs g Hb e0 σ vs ds xs → (∀ v d x, ItA g Hb e0 σ v d x → v ∈ vs → RR g Hb1 H1 d x) → RRs g Hb1 H1 ds xs
  | [], _, _, h, _ => by obtain ⟨rfl, rfl⟩ := h; rfl
  | v :: l, _, _, h, k => by
    obtain ⟨d, ds, x, xs, rfl, rfl, h1, h2⟩ := h
    exact ⟨x, xs, rfl, k v d x h1 (List.mem_cons_self), itas_read h2 fun v d x a m => k v d x a (List.mem_cons_of_mem _ m)⟩
theorem mem_vws {vs : List Val} {i : Nat} (h : Val.vw i ∈ vs) : i ∈ vws vs := by
  obtain ⟨j, hj⟩ := List.mem_iff_getElem?.mp h
  exact vws_at hj
theorem its_read {vs : List Val} {ds : List D} {xs : List V} (h : ItAs g Hb e0 σ vs ds xs) (p : SK g σ Hb H (lockE (vws vs) e0) σ1 Hb1 H1 e1) : RRs g Hb1 H1 ds xs := by
  refine itas_read h fun v d x a m => ?_
  rcases a with a | ⟨i, b, k, c, rfl, h1, rfl, h2⟩
  · exact RR.of p.st.ex (Rp.mono p.vp.b d x a)
  · have h3 : (lockE (vws vs) e0)[i]? = some (.own b true c) := by rw [lockE_at, if_pos (mem_vws m), h1]; rfl
    obtain ⟨c', z1, z2, z3⟩ := p.ek.at' i b true c h3 (.inr rfl)
    rw [z3 rfl] at z1
    obtain ⟨a, z4, _, ro⟩ := p.st.own i b true c z1
    rw [z2, h2] at z4; cases z4
    exact RR.ofO ro
/-- what an iterator hands out -/
theorem yld_step {x : V} {H' : Hp} {d : D} (I : VS g Hb e σ H) (h : (H' = H ∧ Rp g Hb d x) ∨ ∃ p o, H p = none ∧ H' = upd H p o ∧ Rp g (upd Hb p o) d x) : ∃ Hb', PK g σ Hb H e Hb' H' e ∧ Rp g Hb' d x := by
  rcases h with ⟨rfl, r⟩ | ⟨p, o, hp, rfl, r⟩
  · exact ⟨Hb, .refl I, r⟩
  · exact ⟨_, .new I hp, r⟩
theorem ss_for {tg iter : Expr} {body : List Stmt} {G : TG} {k : Ik} {ts : List T} {b : List S} {pos : Pos} (Gd : Good g kk X W) (hk : 0 < kk) (hp : PassesOwn (model X.prog X.w) X.A X.env X.xe) (hfold : ∀ x, foldedSetIterable iter X.env x = pure x)
    (hi : SI g X W tg iter (fun e => (evs ce ts e).bind (itsOf k))) (hg : SG g X tg G) (hb : SSs g X W body (exs ce b)) : SS1 g X W (.For tg iter body [] pos) (ex ce (.fors G k ts b)) := by
  intro e σ Hb H Dn I h
  rw [ex] at h
  refine tWS_of (ps_for hp (Gd.calm hk) (pi_W X tg iter) (pg_W X tg) (pss_W X body) hfold) ?_
  refine hi e σ Hb H _ I (CO.out (P := ItP g σ) h fun p e0 J Hb0 H0 pk r h1 => ?_)
  obtain ⟨ds, xs, hA, hJ⟩ := r
  have h2 := CO.unlock h1
  have I0 := pk.st.relock (RLK.lock (vws p.1) e0)
  refine ⟨fun i m σ' H' => ∃ Hb' e', SK g σ Hb0 H0 (lockE (vws p.1) e0) σ' Hb' H' e' ∧ CO g W Dn σ' Hb' H' e' (forF G (exs ce b) (p.2.drop i) e') ∧ m + i = p.2.length, ⟨p.2.length, Hb0, _, .refl I0, h2, rfl⟩, fun i m σ' H' ⟨Hb', e', sk, co, hm⟩ => ?_⟩
  have rr := its_read hA sk
  cases q : p.2[i]? with
  | none =>
    left
    have hl : p.2.length ≤ i := by rw [List.getElem?_eq_none_iff] at q; exact q
    refine ⟨hJ.stop Hb' H' i sk.st.ex rr (by omega), ?_⟩
    rw [List.drop_eq_nil_iff.mpr hl] at co
    exact co σ' Hb' H' (.refl sk.st)
  | some d =>
    right
    obtain ⟨g1, g2⟩ := hJ.go Hb' H' i d sk.st.ex rr q
    have hlt := (List.getElem?_eq_some_iff.mp q).1
    have hd : p.2.drop i = d :: p.2.drop (i + 1) := by
      rw [List.drop_eq_getElem_cons hlt]
      congr 1
      exact (List.getElem?_eq_some_iff.mp q).2
    rw [hd] at co
    unfold forF at co
    refine ⟨g1, fun σ2 H2 => ∃ Hb2 e2, SK g σ Hb0 H0 (lockE (vws p.1) e0) σ2 Hb2 H2 e2 ∧ CO g W Dn σ2 Hb2 H2 e2 (forF G (exs ce b) (p.2.drop (i + 1)) e2), fun σ2 H2 ⟨Hb2, e2, z1, z2⟩ => ⟨p.2.length - (i + 1), by omega, Hb2, e2, z1, z2, by omega⟩, fun x H'' hy => ?_⟩
    obtain ⟨Hb'', pk2, rp⟩ := yld_step sk.st (g2 x H'' hy)
    cases q2 : bindG G d e' with
    | none => rw [q2] at co; exact co.elim
    | some e1 =>
      rw [q2] at co
      dsimp only at co
      refine hg e' σ' Hb'' H'' d x e1 _ pk2.st rp q2 fun σ2 sk2 _ _ => ?_
      have skt := sk.trans (pk2.sk.trans sk2)
      have co2 := CO.shift (pk2.sk.trans sk2) co
      refine hb e1 σ2 Hb'' H'' _ sk2.st ?_
      cases q3 : exs ce b e1 with
      | nx e2 =>
        rw [q3] at co2
        exact fun σ3 Hb3 H3 sk3 => ⟨Hb3, e2, skt.trans sk3, CO.shift sk3 co2⟩
      | ct e2 =>
        rw [q3] at co2
        exact fun σ3 Hb3 H3 sk3 => ⟨Hb3, e2, skt.trans sk3, CO.shift sk3 co2⟩
      | bk e2 => rw [q3] at co2; exact co2
      | rt r e2 => rw [q3] at co2; exact co2
      | rz xd e2 => rw [q3] at co2; exact co2
      | no => rw [q3] at co2; exact co2
theorem ss_whl {c : Expr} {body : List Stmt} {tc : T} {n : Nat} {b : List S} {pos : Pos} (hp : PassesOwn (model X.prog X.w) X.A X.env X.xe) (hc : ST g X W c (evT ce tc)) (hb : SSs g X W body (exs ce b)) : SS1 g X W (.While c body [] pos) (ex ce (.whl n tc b)) := by
  intro e σ Hb H Dn I h
  rw [ex] at h
  refine tWS_of (ps_while hp (pt_W X c) (pss_W X body)) ?_
  refine ⟨fun m σ' H' => ∃ Hb' e', SK g σ Hb H e σ' Hb' H' e' ∧ CO g W Dn σ' Hb' H' e' (whF (evT ce tc) (exs ce b) m e'), ⟨n, Hb, e, .refl I, h⟩, fun m σ' H' ⟨Hb', e', sk, co⟩ => ?_⟩
  cases m with
  | zero => exact co.elim
  | succ m =>
    unfold whF at co
    refine hc e' σ' Hb' H' _ sk.st (CO.out (P := PQ) co fun t e1 x1 Hb1 H1 p1 r1 h1 => ?_)
    subst r1
    cases x1 with
    | false => exact h1 σ' Hb1 H1 (.refl p1.st)
    | true =>
      rw [if_pos rfl] at h1 ⊢
      refine ⟨fun σ2 H2 => ∃ Hb2 e2, SK g σ Hb H e σ2 Hb2 H2 e2 ∧ CO g W Dn σ2 Hb2 H2 e2 (whF (evT ce tc) (exs ce b) m e2), fun σ2 H2 z => ⟨m, by omega, z⟩, ?_⟩
      refine hb e1 σ' Hb1 H1 _ p1.st ?_
      have skt := sk.trans p1.sk
      cases q3 : exs ce b e1 with
      | nx e2 =>
        rw [q3] at h1
        exact fun σ3 Hb3 H3 sk3 => ⟨Hb3, e2, skt.trans sk3, CO.shift sk3 h1⟩
      | ct e2 =>
        rw [q3] at h1
        exact fun σ3 Hb3 H3 sk3 => ⟨Hb3, e2, skt.trans sk3, CO.shift sk3 h1⟩
      | bk e2 => rw [q3] at h1; exact h1
      | rt r e2 => rw [q3] at h1; exact h1
      | rz xd e2 => rw [q3] at h1; exact h1
      | no => rw [q3] at h1; exact h1
end
end Vd
/-! Vd16b: try .. except. -/
namespace Vd
open PySem PySem.Spec PyProof.Rows L2
section
variable {g : Gx} {kk : Nat} {X : Cx} {W : WX} {ce : CE}
/-- a slot that holds data is emptied -/
theorem SK.clear {σ1 σ2 : L2.St} {Hb1 H1 Hb2 H2 : Hp} {e1 e2 : VE} {j : Nat} {d : D} (s : SK g σ1 Hb1 H1 e1 σ2 Hb2 H2 e2) (hj : e1[j]? = some (.dat d)) : SK g σ1 Hb1 H1 e1 (σ2.set j none) Hb2 H2 (e2.set j .un) := by
  have oth : ∀ (i : Nat) (b k : Bool) (c : OC), (e2.set j .un)[i]? = some (SS.own b k c) → j ≠ i ∧ e2[i]? = some (.own b k c) := fun i b k c h => by
    by_cases z : j = i
    · subst z
      by_cases hl : j < e2.length
      · rw [List.getElem?_set_self hl] at h; cases h
      · rw [List.getElem?_eq_none (by simpa using hl)] at h; cases h
    · rw [List.getElem?_set_ne z] at h; exact ⟨z, h⟩
  have ow : ∀ a, Ow g (e2.set j .un) (σ2.set j none) a → Ow g e2 σ2 a := fun a h => by
    rcases h with h | ⟨i, b, k, c, h1, h2⟩
    · exact .inl h
    · obtain ⟨ne, q⟩ := oth i b k c h1
      rw [List.getElem?_set_ne ne] at h2
      exact .inr ⟨i, b, k, c, q, h2⟩
  refine ⟨⟨s.vp.b, s.vp.k, s.vp.n, fun a h => s.vp.s a (ow a h), s.vp.t, s.vp.f⟩, ⟨by simp [s.st.len], s.st.ex, fun i d' h => ?_, fun i b k c h => ?_, fun i l b k c b' k' c' a h1 h2 g1 g2 => ?_, s.st.tok, s.st.tbn⟩, ⟨by simp [s.ek.len], by simp [s.ek.slen], fun i b k c h w => ?_⟩⟩
  · by_cases z : j = i
    · subst z
      by_cases hl : j < e2.length
      · rw [List.getElem?_set_self hl] at h; cases h
      · rw [List.getElem?_eq_none (by simpa using hl)] at h; cases h
    · rw [List.getElem?_set_ne z] at h ⊢
      exact s.st.dat i d' h
  · obtain ⟨ne, q⟩ := oth i b k c h
    rw [List.getElem?_set_ne ne]
    exact s.st.own i b k c q
  · obtain ⟨ne1, q1⟩ := oth i b k c h1
    obtain ⟨ne2, q2⟩ := oth l b' k' c' h2
    rw [List.getElem?_set_ne ne1] at g1
    rw [List.getElem?_set_ne ne2] at g2
    exact s.st.inj i l b k c b' k' c' a q1 q2 g1 g2
  · have ne : j ≠ i := fun z => by
      rw [← z, hj] at h
      cases h
    obtain ⟨c', q1, q2, q3⟩ := s.ek.at' i b k c h w
    exact ⟨c', by rw [List.getElem?_set_ne ne]; exact q1, by rw [List.getElem?_set_ne ne]; exact q2, q3⟩
theorem putS_at {j : Nat} {s : SS} {e e' : VE} (h : putS j s e = some e') : e'[j]? = some s := by
  obtain ⟨h1, rfl, _⟩ := putS_some h
  rw [List.getElem?_set_self h1]
theorem CO.cold {σ : L2.St} {Hb H : Hp} {e : VE} {Dn : Ends} {o : Out} {W' : WX} (h : CO g W Dn σ Hb H e o.cold) : CO g W' Dn σ Hb H e o := by
  cases o <;> first | exact h | exact (show False from h).elim
theorem CO.gone {σ : L2.St} {Hb H : Hp} {e : VE} {Dn : Ends} {o : Out} {W' : WX} {j : Nat} {d : D} (hj : e[j]? = some (.dat d)) (h : CO g W Dn σ Hb H e (o.gone j)) : CO g W' (endsAs (some j) Dn) σ Hb H e o := by
  cases o with
  | nx e3 => exact fun σ' Hb' H' s => h _ Hb' H' (s.clear hj)
  | bk e3 => exact fun σ' Hb' H' s => h _ Hb' H' (s.clear hj)
  | ct e3 => exact fun σ' Hb' H' s => h _ Hb' H' (s.clear hj)
  | rt r e3 => exact h
  | rz x e3 => exact (show False from h).elim
  | no => exact (show False from h).elim
/-- one suite -/
theorem hnd_ok {suite : List Stmt} {f : VE → Out} {i : Option Nat} {x : XD} {Dn : Ends} {σ σ' : L2.St} {Hb H Hb' H' : Hp} {e e' : VE} (hs : ∀ a, SSs g (hotCx X a) (fun _ _ _ _ => False) suite f) (h : CO g W Dn σ Hb H e (hnd i x e' f)) (s : SK g σ Hb H e σ' Hb' H' e')
    {cls : Value} {d : Option Addr} (rx : RX g Hb' H' x cls d) : ∀ a, H' a = none → tWSs (hotCx X a) suite (endsAs i Dn) (slotAs i a σ') (upd H' a (exH a cls d)) := fun a na => by
  obtain ⟨rfl, kfs, hd, hf⟩ := rx
  cases i with
  | none =>
    have pk : PK g σ' Hb' H' e' Hb' (upd H' a (exH a (g.cv x.c) d)) e' := .temp s.st na
    exact hs a _ _ _ _ _ pk.st (CO.cold (CO.shift (s.trans pk.sk) h))
  | some j =>
    unfold hnd at h
    dsimp only at h
    cases q : putS j (.dat (.exc x.c x.fs)) e' with
    | none => rw [q] at h; exact h.elim
    | some e2 =>
      rw [q] at h
      have pk : PK g σ' Hb' H' e' (upd Hb' a (exH a (g.cv x.c) d)) (upd H' a (exH a (g.cv x.c) d)) e' := .new s.st na
      have hb := s.st.ex.back na
      have s2 := SK.putP pk.st (x := .ref a) q ⟨a, d, kfs, rfl, upd_same, hd.ex (.new hb), Rpf.mono (.new hb) _ _ hf⟩
      exact hs a _ _ _ _ _ s2.st (CO.gone (putS_at q) (CO.shift ((s.trans pk.sk).trans s2) h))
/-- the clause as it is written -/
inductive ClB (X : Cx) (g : Gx) (ce : CE) : ExceptHandler → Nat → Option Nat → (VE → Out) → Prop
  | only {x : Str} {c : Nat} {b₀ : Stmt} {suite : List Stmt} {np q : Pos} {f : VE → Out} (hc : Names X x (g.cv c)) (hs : ∀ a, SSs g (hotCx X a) (fun _ _ _ _ => False) (b₀ :: suite) f) : ClB X g ce (.ExceptHandler (some (.Name x np)) none (b₀ :: suite) q) c none f
  | as {x n : Str} {i c : Nat} {b₀ : Stmt} {suite : List Stmt} {np q : Pos} {f : VE → Out} (hc : Names X x (g.cv c)) (hi : X.N[i]? = some n) (hl : X.env.kindOf n = some .local) (hs : ∀ a, SSs g (hotCx X a) (fun _ _ _ _ => False) (b₀ :: suite) f) : ClB X g ce (.ExceptHandler (some (.Name x np)) (some n) (b₀ :: suite) q) c (some i) f
theorem ClB.cat {h : ExceptHandler} {c : Nat} {i : Option Nat} {f : VE → Out} (G : Good g kk X W) (b : ClB X g ce h c i f) : ∃ suite : List Stmt, (∀ a, SSs g (hotCx X a) (fun _ _ _ _ => False) suite f) ∧ ∀ {hs : List ExceptHandler} {l : List (Value × Option Nat × TSX)}, Cats X hs l → Cats X (h :: hs) ((g.cv c, i, fun a _ _ => tWSs (hotCx X a) suite) :: l) := by
  cases b with
  | only hc hs => exact ⟨_, hs, fun r => .only hc (fun a cls d => pss_W _ _) r⟩
  | as hc hi hl hs => exact ⟨_, hs, fun r => .as hc G.nd hi hl (fun a cls d => pss_W _ _) r⟩
/-- try: body / except C: suite -/
theorem ss_try1 {body : List Stmt} {h0 : ExceptHandler} {b s s2 : List S} {c : Nat} {i i2 : Option Nat} {tpos : Pos} (F : ClsF X.K g ce) (G : Good g kk X W) (hs : X.stack = X.env :: X.outer) (hf : X.env.frame = some X.env.locals) (hex : X.ex = [])
    (hb : ∀ (W' : WX) (pn : List (Addr × Obj)) (xe : Value → Shared → Prop), Takes (X.tr pn xe) W' → PassesOwn (model X.prog X.w) X.A X.env xe → SSs g (X.tr pn xe) W' body (exs ce b)) (h1 : ClB X g ce h0 c i (exs ce s)) :
    SS1 g X W (.Try body [h0] [] [] tpos) (ex ce (.tryc b [c] i s [] i2 s2)) := by
  intro e σ Hb H Dn I h
  obtain ⟨su, su1, su2⟩ := h1.cat G
  refine tWS_of (ps_catch hs hf hex G.tk (tb := fun W' D σ H => CO g W' D σ Hb H e (exs ce b e) ∧ VS g Hb e σ H) (fun W' pn xe tk hp => ⟨fun pins s σ' H' D' J hh => hb W' pn xe tk hp e σ' Hb H' D' hh.2 hh.1 pins s J⟩) (su2 .nil)) ?_
  refine ⟨?_, I⟩
  rw [ex] at h
  cases q : exs ce b e with
  | nx e1 => rw [q] at h; exact h
  | bk e1 => rw [q] at h; exact h
  | ct e1 => rw [q] at h; exact h
  | rt r e1 => rw [q] at h; exact h
  | no => rw [q] at h; exact h
  | rz x e1 =>
    rw [q] at h
    dsimp only at h
    intro cls d σ' Hb' H' sk rx
    have ec := rx.1
    subst ec
    unfold subAny at h
    cases q1 : ce.sub x.c c with
    | none => rw [q1] at h; exact h.elim
    | some b1 =>
      rw [q1] at h
      refine ⟨b1, (F.sub _ _ _ q1).1, fun z => ?_, fun z => ?_⟩
      · subst z
        exact hnd_ok su1 h sk rx
      · subst z
        exact h _ _ _ _ _ sk rx
/-- .. with two clauses -/
theorem ss_try2 {body : List Stmt} {h0 h0' : ExceptHandler} {b s s2 : List S} {c c2 : Nat} {i i2 : Option Nat} {tpos : Pos} (F : ClsF X.K g ce) (G : Good g kk X W) (hs : X.stack = X.env :: X.outer) (hf : X.env.frame = some X.env.locals) (hex : X.ex = [])
    (hb : ∀ (W' : WX) (pn : List (Addr × Obj)) (xe : Value → Shared → Prop), Takes (X.tr pn xe) W' → PassesOwn (model X.prog X.w) X.A X.env xe → SSs g (X.tr pn xe) W' body (exs ce b)) (h1 : ClB X g ce h0 c i (exs ce s)) (h2 : ClB X g ce h0' c2 i2 (exs ce s2)) :
    SS1 g X W (.Try body [h0, h0'] [] [] tpos) (ex ce (.tryc b [c] i s [c2] i2 s2)) := by
  intro e σ Hb H Dn I h
  obtain ⟨su, su1, su2⟩ := h1.cat G
  obtain ⟨sv, sv1, sv2⟩ := h2.cat G
  refine tWS_of (ps_catch hs hf hex G.tk (tb := fun W' D σ H => CO g W' D σ Hb H e (exs ce b e) ∧ VS g Hb e σ H) (fun W' pn xe tk hp => ⟨fun pins s σ' H' D' J hh => hb W' pn xe tk hp e σ' Hb H' D' hh.2 hh.1 pins s J⟩) (su2 (sv2 .nil))) ?_
  refine ⟨?_, I⟩
  rw [ex] at h
  cases q : exs ce b e with
  | nx e1 => rw [q] at h; exact h
  | bk e1 => rw [q] at h; exact h
  | ct e1 => rw [q] at h; exact h
  | rt r e1 => rw [q] at h; exact h
  | no => rw [q] at h; exact h
  | rz x e1 =>
    rw [q] at h
    dsimp only at h
    intro cls d σ' Hb' H' sk rx
    have ec := rx.1
    subst ec
    unfold subAny at h
    cases q1 : ce.sub x.c c with
    | none => rw [q1] at h; exact h.elim
    | some b1 =>
      rw [q1] at h
      refine ⟨b1, (F.sub _ _ _ q1).1, fun z => ?_, fun z => ?_⟩
      · subst z
        exact hnd_ok su1 h sk rx
      · subst z
        dsimp only [subAny] at h
        cases q2 : ce.sub x.c c2 with
        | none => rw [q2] at h; exact h.elim
        | some b2 =>
          rw [q2] at h
          refine ⟨b2, (F.sub _ _ _ q2).1, fun z => ?_, fun z => ?_⟩
          · subst z
            exact hnd_ok sv1 h sk rx
          · subst z
            exact h _ _ _ _ _ sk rx
end
end Vd
/-! Vd16c: for .. in d.items(), d an own dict. -/
namespace Vd
open PySem PySem.Spec PyProof.Rows L2
section
variable {g : Gx} {kk : Nat} {X : Cx} {W : WX} {ce : CE} {Dn : Ends} {σ σ1 : L2.St} {Hb H Hb1 H1 : Hp} {e e1 e0 : VE}
/-- an own object is written, its lock turned -/
theorem VS.write2 (I : VS g Hb e σ H) {i : Nat} {b k k2 : Bool} {c c' : OC} {a : Addr} {o : HO} (h : e[i]? = some (.own b k c)) (hs : σ[i]? = some (some (.ref a))) (ro : RO g Hb (upd H a o) c' a) : VS g Hb (e.set i (.own b k2 c')) σ (upd H a o) := by
  obtain ⟨a0, z, hb, ro0⟩ := I.own i b k c h
  rw [hs] at z; cases z
  obtain ⟨u, hu, n1, n2⟩ := ro0.there
  have hi : i < e.length := (List.getElem?_eq_some_iff.mp h).1
  have tn : ¬ g.tb a := I.tb_ne fun ps q => by rw [hu] at q; cases q; exact n1 ps rfl
  have oth : ∀ (j : Nat) b' k' d, (e.set i (.own b k2 c'))[j]? = some (SS.own b' k' d) → (i = j ∧ d = c' ∧ b' = b ∧ k' = k2) ∨ (i ≠ j ∧ e[j]? = some (SS.own b' k' d)) := fun j b' k' d q => by
    by_cases z : i = j
    · subst z
      rw [List.getElem?_set_self hi] at q
      cases q
      exact .inl ⟨rfl, rfl, rfl, rfl⟩
    · rw [List.getElem?_set_ne z] at q
      exact .inr ⟨z, q⟩
  have own0 : ∀ (j : Nat) b' k' d, (e.set i (.own b k2 c'))[j]? = some (SS.own b' k' d) → ∃ k0 d0, e[j]? = some (SS.own b' k0 d0) := fun j b' k' d q => by
    rcases oth j b' k' d q with ⟨rfl, _, rfl, rfl⟩ | ⟨_, q⟩
    · exact ⟨k, c, h⟩
    · exact ⟨k', d, q⟩
  refine ⟨by rw [List.length_set]; exact I.len, fun x v q => ?_, fun j d q => ?_, fun j b' k' d q => ?_, fun j l b1 k1 c1 b2 k2 c2 a' q1 q2 => ?_, ?_, fun x q => ?_⟩
  · have ne : x ≠ a := fun z => by rw [z, hb] at q; cases q
    rw [upd_ne ne]; exact I.ex x v q
  · by_cases z : i = j
    · subst z
      rw [List.getElem?_set_self hi] at q
      cases q
    · rw [List.getElem?_set_ne z] at q
      exact I.dat j d q
  · rcases oth j b' k' d q with ⟨rfl, rfl, rfl, rfl⟩ | ⟨nz, q⟩
    · exact ⟨a, hs, hb, ro⟩
    · obtain ⟨a', e1, e2, e3⟩ := I.own j b' k' d q
      have ne : a' ≠ a := fun z => nz (I.inj i j b k c b' k' d a h q hs (by rw [e1, z]))
      exact ⟨a', e1, e2, e3.mono (.refl _) fun o h => by rw [upd_ne ne]; exact h⟩
  · obtain ⟨f1, d1, z1⟩ := own0 j b1 k1 c1 q1
    obtain ⟨f2, d2, z2⟩ := own0 l b2 k2 c2 q2
    exact I.inj j l b1 f1 d1 b2 f2 d2 a' z1 z2
  · exact g.tokU _ _ _ I.tok (fun ps z => by rw [hu] at z; cases z; exact n1 ps rfl) (fun ps z => by rw [hu] at z; cases z; exact n2 ps rfl)
  · have ne : x ≠ a := fun z => tn (z ▸ q)
    exact ⟨(I.tbn x q).1, by rw [upd_ne ne]; exact (I.tbn x q).2⟩
theorem ow_turn {i : Nat} {b k k2 : Bool} {c c' : OC} (h : e[i]? = some (.own b k c)) : Ow g (e.set i (.own b k2 c')) σ = Ow g e σ := by
  have hi : i < e.length := (List.getElem?_eq_some_iff.mp h).1
  funext a
  apply propext
  constructor
  · rintro (z | ⟨j, b', k', d, z1, z2⟩)
    · exact .inl z
    · by_cases y : i = j
      · subst y; exact .inr ⟨i, b, k, c, h, z2⟩
      · rw [List.getElem?_set_ne y] at z1; exact .inr ⟨j, b', k', d, z1, z2⟩
  · rintro (z | ⟨j, b', k', d, z1, z2⟩)
    · exact .inl z
    · by_cases y : i = j
      · subst y; exact .inr ⟨i, b, k2, c', List.getElem?_set_self hi, z2⟩
      · exact .inr ⟨j, b', k', d, by rw [List.getElem?_set_ne y]; exact z1, z2⟩
/-- a step of the frame with a dict locked is one of the frame -/
theorem SK.thaw {i : Nat} {bb : Bool} {l : List (DK × D)} {a : Addr} {od : Obj} {kvs : List (Key × V)} (I : VS g Hb e σ H) (h : e[i]? = some (.own bb false (.od l))) (hs : σ[i]? = some (some (.ref a))) (hd : H a = some (.dK kvs)) (rk : Rpk g Hb l kvs)
    {σ' : L2.St} {Hb' H' : Hp} {e' : VE} (p : SK g σ Hb (upd H a (.frz od (.dK kvs))) (e.set i (.own bb true (.fd l))) σ' Hb' H' e') :
    H' a = some (.frz od (.dK kvs)) ∧ e'[i]? = some (.own bb true (.fd l)) ∧ σ'[i]? = some (some (.ref a)) ∧ SK g σ Hb H e σ' Hb' (upd H' a (.dK kvs)) (e'.set i (.own bb false (.od l))) := by
  have hi : i < e.length := (List.getElem?_eq_some_iff.mp h).1
  have h1 : (e.set i (.own bb true (.fd l)))[i]? = some (.own bb true (.fd l)) := List.getElem?_set_self hi
  have ha : H' a = some (.frz od (.dK kvs)) := p.vp.f a _ _ upd_same
  obtain ⟨c', z1, z2, z3⟩ := p.ek.at' i bb true _ h1 (.inr rfl)
  rw [z3 rfl] at z1
  have hs' : σ'[i]? = some (some (.ref a)) := by rw [z2]; exact hs
  have o1 : Ow g (e.set i (.own bb true (.fd l))) σ = Ow g e σ := ow_turn h
  have o2 : Ow g (e'.set i (.own bb false (.od l))) σ' = Ow g e' σ' := ow_turn z1
  have oa : Ow g e σ a := .inr ⟨i, bb, false, _, h, hs⟩
  refine ⟨ha, z1, hs', ⟨p.vp.b, fun x o q n => ?_, fun x o q => ?_, fun x q => ?_, fun x q => ?_, fun x o u q => ?_⟩, p.st.write2 z1 hs' ⟨kvs, upd_same, Rpk.mono p.vp.b l kvs rk⟩, ⟨by rw [List.length_set, p.ek.len, List.length_set], p.ek.slen, fun j b k c q w => ?_⟩⟩
  · have ne : x ≠ a := fun z => n (z ▸ oa)
    rw [upd_ne ne]
    exact p.vp.k x o (by rw [upd_ne ne]; exact q) (by rw [o1]; exact n)
  · rcases p.vp.n x o q with z | z | z
    · exact .inl z
    · refine .inr (.inl ?_)
      by_cases ne : x = a
      · subst ne; rw [upd_same] at z; cases z
      · rw [upd_ne ne] at z; exact z
    · rw [o1] at z; exact .inr (.inr z)
  · rw [o2] at q
    rcases p.vp.s x q with z | z
    · rw [o1] at z; exact .inl z
    · refine .inr ?_
      by_cases ne : x = a
      · subst ne; rw [upd_same] at z; cases z
      · rw [upd_ne ne] at z; exact z
  · by_cases ne : x = a
    · subst ne; rw [upd_same] at q; cases q
    · rw [upd_ne ne] at q
      have := p.vp.t x q
      rw [upd_ne ne] at this; exact this
  · have ne : x ≠ a := fun z => by rw [z, hd] at q; cases q
    rw [upd_ne ne]
    exact p.vp.f x o u (by rw [upd_ne ne]; exact q)
  · by_cases y : i = j
    · subst y
      rw [h] at q; cases q
      have hi' : i < e'.length := (List.getElem?_eq_some_iff.mp z1).1
      exact ⟨_, List.getElem?_set_self hi', z2, fun _ => rfl⟩
    · obtain ⟨c2, y1, y2, y3⟩ := p.ek.at' j b k c (by rw [List.getElem?_set_ne y]; exact q) w
      exact ⟨c2, by rw [List.getElem?_set_ne y]; exact y1, y2, y3⟩
/-- the ends of a locked loop -/
abbrev lockD (D : Ends) (a : Addr) (od : Obj) (u : HO) : Ends := ⟨fun σ' H' => H' a = some (.frz od u) ∧ D.nx σ' (upd H' a u), fun v H' => H' a = some (.frz od u) ∧ D.rt v (upd H' a u), fun σ' H' => H' a = some (.frz od u) ∧ D.bk σ' (upd H' a u), fun σ' H' => H' a = some (.frz od u) ∧ D.ct σ' (upd H' a u)⟩
theorem CO.thaw {i : Nat} {bb : Bool} {l : List (DK × D)} {a : Addr} {od : Obj} {kvs : List (Key × V)} (I : VS g Hb e σ H) (h : e[i]? = some (.own bb false (.od l))) (hs : σ[i]? = some (some (.ref a))) (hd : H a = some (.dK kvs)) (rk : Rpk g Hb l kvs) {o : Out}
    (q : CO g W Dn σ Hb H e (o.thaw i (.own bb false (.od l)))) : CO g W (lockD Dn a od (.dK kvs)) σ Hb (upd H a (.frz od (.dK kvs))) (e.set i (.own bb true (.fd l))) o := by
  cases o with
  | nx e' => exact fun σ' Hb' H' p => let ⟨z1, _, _, z2⟩ := p.thaw I h hs hd rk; ⟨z1, q σ' Hb' _ z2⟩
  | rt r e' =>
    intro x σ' Hb' H' p rv
    obtain ⟨z1, z3, z4, z2⟩ := p.thaw I h hs hd rk
    refine ⟨z1, q x σ' Hb' _ z2 ?_⟩
    cases r with
    | p d => exact rv
    | fr c =>
      obtain ⟨a2, rfl, h0, h1, h2, h3⟩ := rv
      have ne : a2 ≠ a := fun z => h3 (.inr ⟨i, bb, true, _, z3, by rw [z4, z]⟩)
      refine ⟨a2, rfl, h0.imp (fun z => by rw [upd_ne ne] at z; exact z) (fun z => by rw [ow_turn h] at z; exact z), h1, h2.mono (.refl _) fun o h => by rw [upd_ne ne]; exact h, by rw [ow_turn z3]; exact h3⟩
  | bk e' => exact q.elim
  | ct e' => exact q.elim
  | rz xd e' => exact q.elim
  | no => exact q.elim
theorem items_get {l : List (DK × D)} {kvs : List (Key × V)} {ds : List D} (rk : Rpk g Hb l kvs) (hi : itemsD l = some ds) : ds.length = kvs.length ∧ ∀ (i : Nat) (d : D) (k : Key) (v : V), ds[i]? = some d → kvs[i]? = some (k, v) → ∀ (p : Addr) (Hb' : Hp), Ex Hb Hb' → Hb' p = some (.tup [kV k, v]) → Rp g Hb' d (.ref p) := by
  induction l generalizing kvs ds with
  | nil => cases rk; cases hi; exact ⟨rfl, fun i d k v h => by simp at h⟩
  | cons kd l ih =>
    obtain ⟨k0, d0⟩ := kd
    obtain ⟨v0, r, rfl, h1, h2⟩ := rk
    cases k0 with
    | inr s => cases hi
    | inl n =>
      unfold itemsD at hi
      cases q : itemsD l with
      | none => rw [q] at hi; cases hi
      | some ds' =>
        rw [q] at hi; cases hi
        obtain ⟨e1, e2⟩ := ih h2 q
        refine ⟨by simp [e1], fun i d k v hd hk p Hb' ex hp => ?_⟩
        cases i with
        | zero =>
          simp at hd hk
          obtain ⟨rfl, rfl⟩ := hk
          subst hd
          exact ⟨p, [kV (kT (.inl n)), v0], rfl, .of hp, _, _, rfl, rfl, _, _, rfl, Rp.mono ex d0 v0 h1, rfl⟩
        | succ i =>
          simp at hd hk
          exact e2 i d k v hd hk p Hb' ex hp
end
end Vd
/-! Vd16d: for .. in d.items(): the loop. -/
namespace Vd
open PySem PySem.Spec PyProof.Rows L2
section
variable {g : Gx} {kk : Nat} {X : Cx} {W : WX} {ce : CE}
theorem ss_forit {x : Str} {p ap cp tpos pos : Pos} {elts : List Expr} {q : Nat} {body : List Stmt} {G : TG} {i : Nat} {b : List S} (Gd : Good g kk X W) (hk : 0 < kk) (hp : PassesOwn (model X.prog X.w) X.A X.env X.xe) (hl : (ap.endLine == cp.line) = true)
    (ha : SE g X W (.Name x p) (ev ce (.var i))) (hg : SG g X (.Tuple elts q tpos) G) (hb : SSs g X W body (exs ce b)) : SS1 g X W (.For (.Tuple elts q tpos) (.Call (.Attribute (.Name x p) "items" ap) [] [] cp) body [] pos) (ex ce (.forit G i b)) := by
  intro e σ Hb H Dn I h
  unfold ex at h
  cases q1 : e[i]? with
  | none => rw [q1] at h; exact h.elim
  | some s0 =>
    rw [q1] at h
    cases s0 with
    | un => exact h.elim
    | dat d => exact h.elim
    | own bb k c =>
      cases k with
      | true => exact h.elim
      | false =>
        cases c with
        | ol l => exact h.elim
        | oi c l => exact h.elim
        | fd l => exact h.elim
        | od l =>
          dsimp only at h
          cases q2 : itemsD l with
          | none => rw [q2] at h; exact h.elim
          | some ds =>
            rw [q2] at h
            dsimp only at h
            obtain ⟨a, hs, hba, kvs, hd, rk⟩ := I.own i _ _ _ q1
            refine tWS_of (ps_lock (ps_for hp (Gd.calm hk) (pi_items (pe_W X (.Name x p)) rfl hl) (pg_W X _) (pss_W X body) (fun _ => rfl))) ?_
            refine ⟨a, .dK kvs, hd, trivial, fun od => ?_⟩
            have hi : i < e.length := (List.getElem?_eq_some_iff.mp q1).1
            have I1 : VS g Hb (e.set i (.own bb true (.fd l))) σ (upd H a (.frz od (.dK kvs))) := I.write2 q1 hs ⟨od, kvs, upd_same, rk⟩
            have h1 := CO.thaw (od := od) I q1 hs hd rk h
            have hi1 : (e.set i (.own bb true (.fd l)))[i]? = some (.own bb true (.fd l)) := List.getElem?_set_self hi
            refine ha _ σ Hb _ _ I1 ?_
            unfold ev
            rw [hi1]
            intro x1 Hb0 H0 pk rv
            obtain ⟨sx, hx⟩ : ∃ y, y = x1 ∧ σ[i]? = some (some y) := ⟨x1, rfl, rv.1⟩
            obtain ⟨rfl, hx⟩ := hx
            rw [hs] at hx
            cases hx
            have f0 : H0 a = some (.frz od (.dK kvs)) := pk.vp.f a _ _ upd_same
            refine ⟨a, od, kvs, rfl, f0, ?_⟩
            refine ⟨fun j m σ' H' => ∃ Hb' e', SK g σ Hb (upd H a (.frz od (.dK kvs))) (e.set i (.own bb true (.fd l))) σ' Hb' H' e' ∧ CO g W (lockD Dn a od (.dK kvs)) σ' Hb' H' e' (forF G (exs ce b) (ds.drop j) e') ∧ m = ds.length - j, ⟨_, Hb0, _, pk.sk, CO.shift pk.sk h1, rfl⟩, fun j m σ' H' ⟨Hb', e', sk, co, hm⟩ => ?_⟩
            have fr : H' a = some (.frz od (.dK kvs)) := sk.vp.f a _ _ upd_same
            obtain ⟨il, ig⟩ := items_get rk q2
            cases q : ds[j]? with
            | none =>
              left
              have hlj : ds.length ≤ j := by rw [List.getElem?_eq_none_iff] at q; exact q
              refine ⟨⟨fr, by omega⟩, ?_⟩
              rw [List.drop_eq_nil_iff.mpr hlj] at co
              exact co σ' Hb' H' (.refl sk.st)
            | some d =>
              right
              have hlt := (List.getElem?_eq_some_iff.mp q).1
              have hdr : ds.drop j = d :: ds.drop (j + 1) := by
                rw [List.drop_eq_getElem_cons hlt]
                congr 1
                exact (List.getElem?_eq_some_iff.mp q).2
              rw [hdr] at co
              unfold forF at co
              refine ⟨⟨fr, by omega⟩, fun σ2 H2 => ∃ Hb2 e2, SK g σ Hb (upd H a (.frz od (.dK kvs))) (e.set i (.own bb true (.fd l))) σ2 Hb2 H2 e2 ∧ CO g W (lockD Dn a od (.dK kvs)) σ2 Hb2 H2 e2 (forF G (exs ce b) (ds.drop (j + 1)) e2), fun σ2 H2 ⟨Hb2, e2, z1, z2⟩ => ⟨_, by omega, Hb2, e2, z1, z2, rfl⟩, fun y H'' hy => ?_⟩
              obtain ⟨T, k, v, hkv, rfl, hT, rfl⟩ := hy
              have pk2 : PK g σ' Hb' H' e' (upd Hb' T (.tup [kV k, v])) (upd H' T (.tup [kV k, v])) e' := .new sk.st hT
              have rp : Rp g (upd Hb' T (.tup [kV k, v])) d (.ref T) := ig j d k v q hkv T _ (sk.vp.b.trans pk2.vp.b) upd_same
              cases q2' : bindG G d e' with
              | none => rw [q2'] at co; exact co.elim
              | some e1 =>
                rw [q2'] at co
                dsimp only at co
                refine hg e' σ' _ _ d _ e1 _ pk2.st rp q2' fun σ2 sk2 _ _ => ?_
                have skt := sk.trans (pk2.sk.trans sk2)
                have co2 := CO.shift (pk2.sk.trans sk2) co
                refine hb e1 σ2 _ _ _ sk2.st ?_
                cases q3 : exs ce b e1 with
                | nx e2 =>
                  rw [q3] at co2
                  exact fun σ3 Hb3 H3 sk3 => ⟨Hb3, e2, skt.trans sk3, CO.shift sk3 co2⟩
                | ct e2 =>
                  rw [q3] at co2
                  exact fun σ3 Hb3 H3 sk3 => ⟨Hb3, e2, skt.trans sk3, CO.shift sk3 co2⟩
                | bk e2 => rw [q3] at co2; exact co2
                | rt r e2 => rw [q3] at co2; exact co2
                | rz xd e2 => rw [q3] at co2; exact co2
                | no => rw [q3] at co2; exact co2
end
end Vd
/-! Vd17: comprehensions. -/
namespace Vd
open PySem PySem.Spec PyProof.Rows L2
section
variable {g : Gx} {kk : Nat} {X : Cx} {W : WX} {ce : CE} {σ σ1 : L2.St} {Hb H Hb1 H1 Hb0 H0 : Hp} {e e1 e0 : VE}
theorem set_none {α : Type} {e : List α} {i : Nat} (s : α) (h : e[i]? = none) : e.set i s = e := by
  apply List.set_eq_of_length_le
  rw [List.getElem?_eq_none_iff] at h; exact h
theorem setAllE_at (h : Nat → SS) (j : Nat) : ∀ (l : List Nat) (e : VE), (l.foldl (fun e i => e.set i (h i)) e)[j]? = if j ∈ l then (e[j]?).map (fun _ => h j) else e[j]?
  | [], e => by simp
  | i :: l, e => by
    rw [List.foldl_cons, setAllE_at h j l]
    by_cases z : i = j
    · subst z
      rw [if_pos (List.mem_cons_self)]
      cases q : e[i]? with
      | none => rw [set_none (h i) q, q]; split <;> rfl
      | some s =>
        rw [List.getElem?_set_self (List.getElem?_eq_some_iff.mp q).1]
        split <;> rfl
    · rw [List.getElem?_set_ne z]
      by_cases m : j ∈ l
      · rw [if_pos m, if_pos (List.mem_cons_of_mem _ m)]
      · rw [if_neg m, if_neg (by simp only [List.mem_cons, not_or]; exact ⟨fun w => z w.symm, m⟩)]
theorem setAllE_len (h : Nat → SS) : ∀ (l : List Nat) (e : VE), (l.foldl (fun e i => e.set i (h i)) e).length = e.length
  | [], e => rfl
  | i :: l, e => by rw [List.foldl_cons, setAllE_len h l]; simp
theorem wipeE_at (l : List Nat) (e : VE) (j : Nat) : (wipeE l e)[j]? = if j ∈ l then (e[j]?).map (fun _ => SS.un) else e[j]? := setAllE_at (fun _ => .un) j l e
theorem backE_at (e0 : VE) (l : List Nat) (e : VE) (j : Nat) : (backE e0 l e)[j]? = if j ∈ l then (e[j]?).map (fun _ => (e0[j]?).getD .un) else e[j]? := setAllE_at (fun i => (e0[i]?).getD .un) j l e
theorem wipeE_len (l : List Nat) (e : VE) : (wipeE l e).length = e.length := setAllE_len _ l e
theorem backE_len (e0 : VE) (l : List Nat) (e : VE) : (backE e0 l e).length = e.length := setAllE_len _ l e
theorem wipe_at (σ : L2.St) (j : Nat) : ∀ l : List Nat, (wipe σ l)[j]? = if j ∈ l then (σ[j]?).map (fun _ => none) else σ[j]?
  | [] => by simp [wipe]
  | v :: l => by
    unfold wipe
    by_cases z : v = j
    · subst z
      rw [if_pos (List.mem_cons_self)]
      cases q : σ[v]? with
      | none =>
        have : (wipe σ l)[v]? = none := by rw [wipe_at σ v l, q]; split <;> rfl
        rw [set_none _ this, this]; rfl
      | some s =>
        have hl : v < (wipe σ l).length := by rw [wipe_length]; exact (List.getElem?_eq_some_iff.mp q).1
        rw [List.getElem?_set_self hl]; rfl
    · rw [List.getElem?_set_ne z, wipe_at σ j l]
      by_cases m : j ∈ l
      · rw [if_pos m, if_pos (List.mem_cons_of_mem _ m)]
      · rw [if_neg m, if_neg (by simp only [List.mem_cons, not_or]; exact ⟨fun w => z w.symm, m⟩)]
theorem wipeE_own {l : List Nat} {j : Nat} {b k : Bool} {c : OC} (h : (wipeE l e)[j]? = some (.own b k c)) : j ∉ l ∧ e[j]? = some (.own b k c) := by
  rw [wipeE_at] at h
  split at h
  · cases q : e[j]? <;> (rw [q] at h; cases h)
  · exact ⟨by assumption, h⟩
theorem wipeE_dat {l : List Nat} {j : Nat} {d : D} (h : (wipeE l e)[j]? = some (.dat d)) : j ∉ l ∧ e[j]? = some (.dat d) := by
  rw [wipeE_at] at h
  split at h
  · cases q : e[j]? <;> (rw [q] at h; cases h)
  · exact ⟨by assumption, h⟩
/-- the frame without a block's own slots -/
theorem VS.wipe {σ' : L2.St} (I : VS g Hb e σ H) (l : List Nat) (hs : σ'.length = σ.length) (hσ : ∀ j, j ∉ l → σ'[j]? = σ[j]?) : VS g Hb (wipeE l e) σ' H ∧ ∀ a, Ow g (wipeE l e) σ' a → Ow g e σ a := by
  refine ⟨⟨by rw [wipeE_len, hs]; exact I.len, I.ex, fun j d h => ?_, fun j b k c h => ?_, fun j l' b k c b' k' c' a h h' s s' => ?_, I.tok, I.tbn⟩, fun a z => ?_⟩
  · obtain ⟨m, h⟩ := wipeE_dat h
    rw [hσ j m]; exact I.dat j d h
  · obtain ⟨m, h⟩ := wipeE_own h
    rw [hσ j m]; exact I.own j b k c h
  · obtain ⟨m, h⟩ := wipeE_own h
    obtain ⟨m', h'⟩ := wipeE_own h'
    rw [hσ j m] at s
    rw [hσ l' m'] at s'
    exact I.inj j l' b k c b' k' c' a h h' s s'
  · rcases z with z | ⟨j, b, k, c, z1, z2⟩
    · exact .inl z
    · obtain ⟨m, h⟩ := wipeE_own z1
      rw [hσ j m] at z2
      exact .inr ⟨j, b, k, c, h, z2⟩
/-- what an own object of a wiped slot is behind the block -/
theorem off_own {l own : List Nat} (I0 : VS g Hb0 e0 σ H0) (p : PK g (wipe σ own) Hb0 H0 (wipeE own (lockE l e0)) Hb H e) {i : Nat} {b k : Bool} {c : OC} {a : Addr} (m : i ∈ own) (h : e0[i]? = some (.own b k c)) (hs : σ[i]? = some (some (.ref a))) :
    Hb a = none ∧ RO g Hb H c a ∧ ¬ Ow g (wipeE own (lockE l e0)) (wipe σ own) a := by
  obtain ⟨a', e1, hb, ro⟩ := I0.own i b k c h
  rw [hs] at e1; cases e1
  obtain ⟨u, hu, n1, _⟩ := ro.there
  have no : ¬ Ow g (wipeE own (lockE l e0)) (wipe σ own) a := by
    rintro (z | ⟨j, b', k', c', z1, z2⟩)
    · obtain ⟨ps, q⟩ := (I0.tbn a z).2
      rw [q] at hu; cases hu
      exact n1 ps rfl
    · obtain ⟨mj, z1⟩ := wipeE_own z1
      obtain ⟨k0, z1⟩ := (RLK.lock l e0).own z1
      rw [wipe_at, if_neg mj] at z2
      have := I0.inj i j b k c b' k0 c' a h z1 hs z2
      subst this
      exact mj m
  refine ⟨?_, ro.mono p.vp.b fun o q => p.vp.k a o q no, no⟩
  cases q : Hb a with
  | none => rfl
  | some v =>
    rcases p.vp.n a v q with z | z | z
    · rw [hb] at z; cases z
    · rw [hu] at z; cases z
    · exact absurd z no
/-- behind the block -/
theorem PK.unblock {l own : List Nat} (I0 : VS g Hb0 e0 σ H0) (p : PK g (wipe σ own) Hb0 H0 (wipeE own (lockE l e0)) Hb H e) : PK g σ Hb0 H0 e0 Hb H (unlockE e0 l (backE e0 own e)) := by
  have len : e.length = e0.length := by rw [p.ek.len, wipeE_len, lockE_len]
  have atn : ∀ j, j ∈ own → (unlockE e0 l (backE e0 own e))[j]? = e0[j]? := fun j m => by
    rw [unlockE_at, backE_at, if_pos m]
    cases q : e0[j]? with
    | none =>
      have : e[j]? = none := by
        rw [List.getElem?_eq_none_iff] at q ⊢
        rw [len]; exact q
      rw [this]; split <;> rfl
    | some s =>
      have hj : j < e.length := by rw [len]; exact (List.getElem?_eq_some_iff.mp q).1
      rw [List.getElem?_eq_getElem hj]
      split
      · cases s <;> rfl
      · rfl
  have ato : ∀ j, j ∉ own → (unlockE e0 l (backE e0 own e))[j]? = if j ∈ l then (e[j]?).map (SS.lock ((e0[j]?).elim false SS.lk)) else e[j]? := fun j m => by
    rw [unlockE_at, backE_at, if_neg m]
  have ek : EK e0 (unlockE e0 l (backE e0 own e)) := ⟨by rw [unlockE_len, backE_len, len], fun j s h => by
    by_cases m : j ∈ own
    · exact ⟨s, by rw [atn j m]; exact h, .same s⟩
    · rw [ato j m]
      have h1 : (wipeE own (lockE l e0))[j]? = if j ∈ l then some (s.lock true) else some s := by
        rw [wipeE_at, if_neg m, lockE_at, h]; rfl
      by_cases ml : j ∈ l
      · rw [if_pos ml] at h1 ⊢
        obtain ⟨s', z1, z2⟩ := p.ek.at' j _ h1
        refine ⟨_, by rw [z1]; rfl, ?_⟩
        rw [h]
        cases s with
        | un => cases z2; exact .same _
        | dat d => cases z2; exact .same _
        | own b k c => cases z2; exact .same _
      · rw [if_neg ml] at h1 ⊢
        exact p.ek.at' j _ h1⟩
  -- own objects behind the block
  have own1 : ∀ (j : Nat) b k c, (unlockE e0 l (backE e0 own e))[j]? = some (SS.own b k c) → (j ∈ own ∧ e0[j]? = some (.own b k c)) ∨ (j ∉ own ∧ ∃ k0, e[j]? = some (.own b k0 c)) := fun j b k c h => by
    by_cases m : j ∈ own
    · rw [atn j m] at h; exact .inl ⟨m, h⟩
    · right
      refine ⟨m, ?_⟩
      have r := RLK.unlock e0 l e
      have : (unlockE e0 l e)[j]? = some (.own b k c) := by rw [unlockE_at, ← ato j m]; exact h
      exact r.own this
  have I := p.st
  have sw : ∀ j, j ∉ own → (wipe σ own)[j]? = σ[j]? := fun j m => by rw [wipe_at, if_neg m]
  have base : ∀ (j : Nat) b k c, (unlockE e0 l (backE e0 own e))[j]? = some (SS.own b k c) → ∃ k0 c0, e0[j]? = some (.own b k0 c0) := fun j b k c h => by
    obtain ⟨c0, z⟩ := ek.own h
    exact ⟨k, c0, z⟩
  have slot : ∀ (j : Nat) b k c, (unlockE e0 l (backE e0 own e))[j]? = some (SS.own b k c) → ∃ a, σ[j]? = some (some (.ref a)) ∧ Hb a = none ∧ RO g Hb H c a := fun j b k c h => by
    rcases own1 j b k c h with ⟨m, h⟩ | ⟨m, k0, h⟩
    · obtain ⟨a, e1, _, _⟩ := I0.own j b k c h
      obtain ⟨z1, z2, _⟩ := off_own I0 p m h e1
      exact ⟨a, e1, z1, z2⟩
    · obtain ⟨a, e1, z1, z2⟩ := I.own j b k0 c h
      rw [sw j m] at e1
      exact ⟨a, e1, z1, z2⟩
  have w0 := I0.relock (RLK.lock l e0)
  have wsub := (w0.wipe own (σ' := wipe σ own) (wipe_length σ own) (fun j m => sw j m)).2
  refine ⟨p.vp.widen (fun a z => by rw [← (RLK.lock l e0).ow]; exact wsub a z) (fun a z => .inl (ek.ow z)), ⟨by rw [unlockE_len, backE_len, len]; exact I0.len, I.ex, fun j d h => ?_, slot, fun j j' b k c b' k' c' a h h' s s' => ?_, I.tok, I.tbn⟩, ek⟩
  · by_cases m : j ∈ own
    · rw [atn j m] at h
      obtain ⟨v, z1, z2⟩ := I0.dat j d h
      exact ⟨v, z1, Rp.mono p.vp.b d v z2⟩
    · have : (unlockE e0 l e)[j]? = some (.dat d) := by rw [unlockE_at, ← ato j m]; exact h
      have := (RLK.unlock e0 l e).dat this
      obtain ⟨v, z1, z2⟩ := I.dat j d this
      rw [sw j m] at z1
      exact ⟨v, z1, z2⟩
  · obtain ⟨k1, c1, z1⟩ := base j b k c h
    obtain ⟨k2, c2, z2⟩ := base j' b' k' c' h'
    exact I0.inj j j' b k1 c1 b' k2 c2 a z1 z2 s s'
/-- the iterables, read in the block -/
theorem its_read_lc {own : List Nat} {vs : List Val} {ds : List D} {xs : List V} (I0 : VS g Hb0 e0 σ H0) (h : ItAs g Hb0 e0 σ vs ds xs) (p : PK g (wipe σ own) Hb0 H0 (wipeE own (lockE (vws vs) e0)) Hb H e) : RRs g Hb H ds xs := by
  refine itas_read h fun v d x a m => ?_
  rcases a with a | ⟨i, b, k, c, rfl, h1, rfl, h2⟩
  · exact RR.of p.st.ex (Rp.mono p.vp.b d x a)
  · by_cases mo : i ∈ own
    · obtain ⟨a, z1, _, _⟩ := I0.own i b k c h1
      rw [h2] at z1; cases z1
      exact RR.ofO (off_own I0 p mo h1 h2).2.1
    · have h3 : (wipeE own (lockE (vws vs) e0))[i]? = some (.own b true c) := by rw [wipeE_at, if_neg mo, lockE_at, if_pos (mem_vws m), h1]; rfl
      obtain ⟨s', z1, z2⟩ := p.ek.at' i _ h3
      cases z2
      obtain ⟨a, z4, _, ro⟩ := p.st.own i b true c z1
      rw [wipe_at, if_neg mo, h2] at z4; cases z4
      exact RR.ofO ro

/-- the contexts of a comprehension's block -/
def InB (X : Cx) (scope : Scope) (P : Cx → Prop) : Prop := ∀ (s : Shared) (H : Hp) (C : Addr) (cl : List (Str × Addr)) (fp : List Addr), P (X.blk s H scope (compEnvC scope cl C X.env) fp)
def W0 : WX := fun _ _ _ _ => False
def sTs (g : Gx) (X : Cx) (ifs : List Expr) (m : VE → R Bool) : Prop := ∀ e σ Hb H (Q : Bool → Hp → Prop), VS g Hb e σ H → CA PQ g W0 σ Hb H e (m e) Q → ∀ pins s, Inv X pins σ H s →
    wpAny (model X.prog X.w) X.A (forIn ifs true fun c r => if r = true then do let ok ← isTrue c X.env (eval c X.env); pure (ForInStep.yield ok) else pure (ForInStep.yield r)) (TP X pins σ Q) X.xe s
theorem sTs_nil : sTs g X [] (evc ce none) := by
  intro e σ Hb H Q I h pins s J
  rw [evc] at h
  exact pts_nil.run pins s σ H Q J (h _ _ _ (.refl I) rfl)
theorem sTs_one {c : Expr} {tc : T} (hc : ST g X W0 c (evT ce tc)) : sTs g X [c] (evc ce (some tc)) := by
  intro e σ Hb H Q I h pins s J
  rw [evc] at h
  exact (pts_one (pt_W X c)).run pins s σ H Q J (hc e σ Hb H Q I h)
/-- one turn of a comprehension -/
def lcT (ce : CE) (G : TG) (c : Option T) (t : T) (own : List Nat) : D → VE → R (Option D) := fun d e => (ofO (bindG G d e) e).bind fun e' _ => (evc ce c e').bind fun b e => if b = true then (ev ce t e).bind fun v e => (ofP (fz e v)).bind fun d e => .ok (some d) (wipeE own e) else .ok none (wipeE own e)
theorem calm_ok {α : Type} {r : R α} {γ δ : Type} {P : Hp → Hp → Hp → VE → γ → δ → Prop} {f : α → VE → R γ} {Q : δ → Hp → Prop} (h : CA P g W σ Hb H e (r.calm.bind f) Q) : ∃ a e', r = .ok a e' ∧ CA P g W σ Hb H e (f a e') Q := by
  cases r with
  | ok a e' => exact ⟨a, e', rfl, h⟩
  | rz x e' => exact h.elim
  | no => exact h.elim
theorem bind_ok {α β : Type} {r : R α} {f : α → VE → R β} {b : β} {e' : VE} (h : r.bind f = .ok b e') : ∃ a e1, r = .ok a e1 ∧ f a e1 = .ok b e' := by
  cases r with
  | ok a e1 => exact ⟨a, e1, rfl, h⟩
  | rz x e1 => cases h
  | no => cases h
theorem lcF_ok {f : D → VE → R (Option D)} {d : D} {l : List D} {r : List D} {e' : VE} (h : lcF f (d :: l) e = .ok r e') : ∃ o e1 r1, f d e = .ok o e1 ∧ lcF f l e1 = .ok r1 e' ∧ r = o.elim r1 (· :: r1) := by
  unfold lcF at h
  obtain ⟨o, e1, z1, h⟩ := bind_ok h
  obtain ⟨r1, e2, z2, h⟩ := bind_ok h
  cases h
  exact ⟨o, e1, r1, z1, z2, rfl⟩
theorem lcF_len {f : D → VE → R (Option D)} : ∀ {l : List D} {e : VE} {r : List D} {e' : VE}, lcF f l e = .ok r e' → r.length ≤ l.length
  | [], e, r, e', h => by unfold lcF at h; cases h; exact Nat.le_refl _
  | d :: l, e, r, e', h => by
    obtain ⟨o, e1, r1, _, z, rfl⟩ := lcF_ok h
    have := lcF_len z
    cases o with
    | none => show r1.length ≤ _; rw [List.length_cons]; omega
    | some d' => show (d' :: r1).length ≤ _; rw [List.length_cons, List.length_cons]; omega
/-- an iterator over data, where what is locked stays so -/
structure JOkF (g : Gx) (Hb0 H0 : Hp) (ds : List D) (xs : List V) (its : List D) (J : It) : Prop where
  go : ∀ (Hb H : Hp) (i : Nat) (d : D), Ex Hb0 Hb → (∀ x o u, H0 x = some (.frz o u) → H x = some (.frz o u)) → Ex Hb H → RRs g Hb H ds xs → its[i]? = some d → J.go i H ∧ ∀ x H', J.yld i H x H' → (H' = H ∧ Rp g Hb d x) ∨ ∃ p o, H p = none ∧ H' = upd H p o ∧ Rp g (upd Hb p o) d x
  stop : ∀ (Hb H : Hp) (i : Nat), Ex Hb0 Hb → (∀ x o u, H0 x = some (.frz o u) → H x = some (.frz o u)) → Ex Hb H → RRs g Hb H ds xs → its.length = i → J.stop i H
theorem JOk.f {ds : List D} {xs : List V} {its : List D} {J : It} (h : JOk g ds xs its J) (Hb0 H0 : Hp) : JOkF g Hb0 H0 ds xs its J := ⟨fun Hb H i d _ _ => h.go Hb H i d, fun Hb H i _ _ => h.stop Hb H i⟩
/-- the turns of a comprehension -/
theorem lc_inner {tg : Expr} {elt : Expr} {ifs : List Expr} {scope : Scope} {G : TG} {c : Option T} {t : T} {own : List Nat}
    (hg : InB X scope fun X' => SG g X' tg G) (hsl : ∀ j ∈ slots G, j ∈ own) (hc : InB X scope fun X' => sTs g X' ifs (evc ce c)) (ht : InB X scope fun X' => SE g X' W0 elt (ev ce t)) {Q : VK} {p : List Val × List D} {J : It} {ds : List D} {xs : List V}
    (I0 : VS g Hb0 e0 σ H0) (hA : ItAs g Hb0 e0 σ p.1 ds xs) (hJ : JOkF g Hb0 H0 ds xs p.2 J)
    (h1 : CA (PV g σ) g W σ Hb0 H0 e0 ((lcF (lcT ce G c t own) p.2 (wipeE own (lockE (vws p.1) e0))).calm.bind fun r e => if r.length ≤ line then .ok (.fr (.ol r)) (unlockE e0 (vws p.1) (backE e0 own e)) else .no) Q) :
    tLc (fun _ H R => R J H) (fun x σ H Q => ∀ (s : Shared) (H0 : Hp) (C : Addr) (cl : List (Str × Addr)) (fp : List Addr), gW (X.blk s H0 scope (compEnvC scope cl C X.env) fp) tg x σ H Q)
      (fun σ H Q => ∀ (s : Shared) (H0 : Hp) (C : Addr) (cl : List (Str × Addr)) (fp : List Addr) pins s', Inv (X.blk s H0 scope (compEnvC scope cl C X.env) fp) pins σ H s' →
        wpAny (model X.prog X.w) X.A (forIn ifs true fun c r => if r = true then do let ok ← isTrue c (compEnvC scope cl C X.env) (eval c (compEnvC scope cl C X.env)); pure (ForInStep.yield ok) else pure (ForInStep.yield r)) (TP (X.blk s H0 scope (compEnvC scope cl C X.env) fp) pins σ Q) (fun _ _ => False) s')
      (fun σ H Q => ∀ (s : Shared) (H0 : Hp) (C : Addr) (cl : List (Str × Addr)) (fp : List Addr), tW (X.blk s H0 scope (compEnvC scope cl C X.env) fp) elt σ H Q) own σ H0 Q := by
  obtain ⟨res, e9, q9, h2⟩ := calm_ok h1
  have q9' : lcF (lcT ce G c t own) p.2 (wipeE own (lockE (vws p.1) e0)) = .ok res e9 := q9
  split at h2
  · rename_i hlen
    have w0 := (I0.relock (RLK.lock (vws p.1) e0)).wipe own (σ' := wipe σ own) (wipe_length σ own) (fun j m => by rw [wipe_at, if_neg m])
    intro Dl hD
    have noD := not_ow w0.1 hD
    have pt := PK.temp (o := .lst []) w0.1 hD
    refine ⟨fun i m H' => ∃ Hb' e' acc ad rest, PK g (wipe σ own) Hb0 H0 (wipeE own (lockE (vws p.1) e0)) Hb' H' e' ∧ H' Dl = some (.lst acc) ∧ Hb' Dl = none ∧ Rps g Hb' ad acc ∧ lcF (lcT ce G c t own) (p.2.drop i) e' = .ok rest e9 ∧ res = ad ++ rest ∧ m + i = p.2.length ∧ (∀ j ∈ own, e'[j]? = none ∨ e'[j]? = some .un),
      ⟨p.2.length, Hb0, _, [], [], res, pt, upd_same, I0.ex.back hD, rfl, q9', rfl, rfl, fun j m => ?_⟩, fun i m H' ⟨Hb', e', acc, ad, rest, pk', hDl, hDb, hacc, hrest, hres, hm, hun⟩ => ?_⟩
    · rw [wipeE_at, if_pos m]
      cases (lockE (vws p.1) e0)[j]? with
      | none => exact .inl rfl
      | some s => exact .inr rfl
    have rr := its_read_lc I0 hA pk'
    have noD' : ¬ Ow g e' (wipe σ own) Dl := fun z => noD (pk'.ek.ow z)
    cases q : p.2[i]? with
    | none =>
      left
      have hl : p.2.length ≤ i := by rw [List.getElem?_eq_none_iff] at q; exact q
      refine ⟨hJ.stop Hb' H' i pk'.vp.b pk'.vp.f pk'.st.ex rr (by omega), ?_⟩
      rw [List.drop_eq_nil_iff.mpr hl] at hrest
      unfold lcF at hrest
      cases hrest
      rw [List.append_nil] at hres
      subst hres
      have pf := PK.unblock I0 pk'
      refine h2 _ Hb' H' pf ⟨Dl, rfl, hD, hDb, ⟨acc, hDl, hacc⟩, fun z => ?_⟩
      have z1 := pf.ek.ow z
      obtain ⟨u, hu⟩ := Ow.there I0 z1
      rw [hD] at hu; cases hu
    | some d =>
      right
      obtain ⟨g1, g2⟩ := hJ.go Hb' H' i d pk'.vp.b pk'.vp.f pk'.st.ex rr q
      have hlt := (List.getElem?_eq_some_iff.mp q).1
      have hd : p.2.drop i = d :: p.2.drop (i + 1) := by
        rw [List.drop_eq_getElem_cons hlt]
        congr 1
        exact (List.getElem?_eq_some_iff.mp q).2
      rw [hd] at hrest
      obtain ⟨o, e3, r1, qf, qr, hr⟩ := lcF_ok hrest
      -- the turn
      unfold lcT at qf
      obtain ⟨e1, e1', z1, qf1⟩ := bind_ok (r := ofO (bindG G d e') e') qf
      clear qf
      have z1' : bindG G d e' = some e1 ∧ e1' = e' := by
        cases q2 : bindG G d e' with
        | none => rw [q2] at z1; cases z1
        | some y => rw [q2] at z1; cases z1; exact ⟨rfl, rfl⟩
      obtain ⟨z1', rfl⟩ := z1'
      obtain ⟨b, e2, z2, qf⟩ := bind_ok (r := evc ce c e1) qf1
      clear qf1
      -- behind the turn, the next one
      have fin : ∀ (σ2 : L2.St) (Hb3 H3 Hb4 H4 : Hp) (e4 : VE) (acc' : List V) (ad' : List D) (rest' : List D), PK g (wipe σ own) Hb' H' e1' Hb3 H3 e1' → SK g (wipe σ own) Hb3 H3 e1' σ2 Hb3 H3 e1 → (∀ j : Nat, j ∉ own → σ2[j]? = (wipe σ own)[j]?) → (∀ j : Nat, j ∉ own → e1[j]? = e1'[j]?) →
          PK g σ2 Hb3 H3 e1 Hb4 H4 e4 → PK g (wipe σ own) Hb' H' e1' Hb4 H4 (wipeE own e4) := by
        intro σ2 Hb3 H3 Hb4 H4 e4 _ _ _ p1 s1 hσ he p2
        have l1 : e1.length = e1'.length := s1.ek.len
        obtain ⟨w1, w2⟩ := p2.st.wipe own (σ' := wipe σ own) s1.ek.slen.symm (fun j m => (hσ j m).symm)
        refine p1.trans ⟨(s1.vp.trans p2.vp).trans ⟨.refl _, fun _ _ q _ => q, fun _ _ q => .inl q, fun a z => .inl (w2 a z), fun _ q => q, fun _ _ _ q => q⟩, w1, ⟨by rw [wipeE_len, p2.ek.len, l1], fun j s hj => ?_⟩⟩
        by_cases m : j ∈ own
        · have : s = .un := by
            rcases hun j m with z | z
            · rw [hj] at z; cases z
            · rw [hj] at z; cases z; rfl
          subst this
          refine ⟨.un, ?_, .same _⟩
          rw [wipeE_at, if_pos m]
          have hj' : j < e4.length := by rw [p2.ek.len, l1]; exact (List.getElem?_eq_some_iff.mp hj).1
          rw [List.getElem?_eq_getElem hj']; rfl
        · obtain ⟨s', y1, y2⟩ := p2.ek.at' j s (by rw [he j m]; exact hj)
          exact ⟨s', by rw [wipeE_at, if_neg m]; exact y1, y2⟩
      have wun : ∀ e4 : VE, ∀ j ∈ own, (wipeE own e4)[j]? = none ∨ (wipeE own e4)[j]? = some .un := fun e4 j m => by
        rw [wipeE_at, if_pos m]
        cases e4[j]? with
        | none => exact .inl rfl
        | some s => exact .inr rfl
      have dfree : ∀ {Hb4 H4 : Hp} {e4 : VE}, PK g (wipe σ own) Hb' H' e1' Hb4 H4 e4 → Hb4 Dl = none ∧ H4 Dl = some (.lst acc) := fun {Hb4 H4 e4} p => by
        refine ⟨?_, p.vp.k Dl _ hDl noD'⟩
        cases y : Hb4 Dl with
        | none => rfl
        | some v =>
          rcases p.vp.n Dl v y with y | y | y
          · rw [hDb] at y; cases y
          · rw [hDl] at y; cases y
          · exact absurd y noD'
      refine ⟨g1, fun H2 => ∃ Hb2 e2 acc2 ad2 rest2, PK g (wipe σ own) Hb0 H0 (wipeE own (lockE (vws p.1) e0)) Hb2 H2 e2 ∧ H2 Dl = some (.lst acc2) ∧ Hb2 Dl = none ∧ Rps g Hb2 ad2 acc2 ∧ lcF (lcT ce G c t own) (p.2.drop (i + 1)) e2 = .ok rest2 e9 ∧ res = ad2 ++ rest2 ∧ (∀ j ∈ own, e2[j]? = none ∨ e2[j]? = some .un),
        fun H2 ⟨Hb2, e2, acc2, ad2, rest2, y1, y2, y3, y4, y5, y6, y7⟩ => ⟨p.2.length - (i + 1), by omega, Hb2, e2, acc2, ad2, rest2, y1, y2, y3, y4, y5, y6, by omega, y7⟩, fun x H'' hy => ?_⟩
      obtain ⟨Hb3, pk2, rp⟩ := yld_step pk'.st (g2 x H'' hy)
      -- the targets
      intro s5 H5 C5 cl5 fp5
      refine hg s5 H5 C5 cl5 fp5 e1' (wipe σ own) Hb3 H'' d x e1 _ pk2.st rp z1' fun σ2 sk2 hσ2 he2 => ?_
      have hσ : ∀ j : Nat, j ∉ own → σ2[j]? = (wipe σ own)[j]? := fun j m => hσ2 j fun z => m (hsl j z)
      have he : ∀ j : Nat, j ∉ own → e1[j]? = e1'[j]? := fun j m => he2 j fun z => m (hsl j z)
      refine ⟨?_, ?_⟩
      · apply List.ext_getElem?
        intro j
        rw [wipe_at, wipe_at]
        by_cases m : j ∈ own
        · rw [if_pos m, if_pos m]
          have hl : σ2.length = σ.length := by rw [sk2.ek.slen, wipe_length]
          cases y : σ[j]? with
          | none =>
            have : σ2[j]? = none := by
              rw [List.getElem?_eq_none_iff] at y ⊢
              rw [hl]; exact y
            rw [this]
          | some v =>
            have : j < σ2.length := by rw [hl]; exact (List.getElem?_eq_some_iff.mp y).1
            rw [List.getElem?_eq_getElem this]; rfl
        · rw [if_neg m, if_neg m, hσ j m, wipe_at, if_neg m]
      -- the test
      intro s6 H6 C6 cl6 fp6 pins6 s6' J6
      refine hc s6 H6 C6 cl6 fp6 e1 σ2 Hb3 H'' _ sk2.st ?_ pins6 s6' J6
      rw [z2]
      intro t6 Hb6 H6 pk6 et6
      subst et6
      cases t6 with
      | false =>
        rw [if_neg (by decide)] at qf ⊢
        cases qf
        have pf := fin σ2 Hb3 H'' Hb6 H6 e2 acc ad r1 pk2 sk2 hσ he pk6
        obtain ⟨f1, f2⟩ := dfree pf
        exact ⟨Hb6, _, acc, ad, r1, pk'.trans pf, f2, f1, Rps.mono pf.vp.b _ _ hacc, qr, by rw [hres, hr]; rfl, wun e2⟩
      | true =>
        rw [if_pos rfl] at qf ⊢
        obtain ⟨v, e7, z7, qf2⟩ := bind_ok (r := ev ce t e2) qf
        -- the element
        intro s7 H7 C7 cl7 fp7
        refine ht s7 H7 C7 cl7 fp7 e2 σ2 Hb6 H6 _ pk6.st ?_
        rw [z7]
        intro y Hb8 H8 pk8 r8
        obtain ⟨d9, e10, z9, qf3⟩ := bind_ok (r := ofP (fz e7 v)) qf2
        cases qf3
        have z9' : fz e7 v = some (d9, e10) := by
          cases w : fz e7 v with
          | none => rw [w] at z9; cases z9
          | some pr => rw [w] at z9; cases z9; rfl
        obtain ⟨Hb10, p10, b10, k10⟩ := RVs.keep (vs := [v]) (xs := [y]) pk8 ⟨y, [], rfl, r8, rfl, fun _ _ j c' z => by simp at z⟩
        obtain ⟨y', rr', ey, k10, er⟩ := k10
        cases er; cases ey
        obtain ⟨Hb11, p11, b11, _, s11⟩ := fz_ok p10 k10 z9'
        have pf := fin σ2 Hb3 H'' Hb11 H8 e10 acc ad r1 pk2 sk2 hσ he (pk6.trans p11)
        obtain ⟨f1, f2⟩ := dfree pf
        have hlen' : res.length ≤ sizeLine := by rw [← line_eq]; exact hlen
        refine ⟨acc, f2, ?_, Hb11, wipeE own e10, acc ++ [y], ad ++ [d9], r1, ?_, upd_same, f1, (Rps.mono pf.vp.b _ _ hacc).app (.one s11), qr, by rw [hres, hr]; simp, wun e10⟩
        · rw [hacc.length]
          rw [hres, hr] at hlen'
          have : (ad ++ (d9 :: r1)).length ≤ sizeLine := hlen'
          rw [List.length_append, List.length_cons] at this
          omega
        · refine (pk'.trans pf).retemp hD f2 (fun _ z => by cases z) (fun _ z => by cases z) (fun z => noD' (pf.ek.ow z)) f1
  · exact h2.elim
/-- the loop of a comprehension -/
theorem lc_run {tg iter : Expr} {elt : Expr} {ifs : List Expr} {scope : Scope} {G : TG} {k : Ik} {ts : List T} {c : Option T} {t : T} {own : List Nat} (hi : SI g X W tg iter (fun e => (evs ce ts e).bind (itsOf k)))
    (hg : InB X scope fun X' => SG g X' tg G) (hsl : ∀ j ∈ slots G, j ∈ own) (hc : InB X scope fun X' => sTs g X' ifs (evc ce c)) (ht : InB X scope fun X' => SE g X' W0 elt (ev ce t)) {Q : VK} (I : VS g Hb e σ H)
    (h : CA (PV g σ) g W σ Hb H e (ev ce (.lc t G k ts c own) e) Q) :
    tLc (tWI X tg iter) (fun x σ H Q => ∀ (s : Shared) (H0 : Hp) (C : Addr) (cl : List (Str × Addr)) (fp : List Addr), gW (X.blk s H0 scope (compEnvC scope cl C X.env) fp) tg x σ H Q)
      (fun σ H Q => ∀ (s : Shared) (H0 : Hp) (C : Addr) (cl : List (Str × Addr)) (fp : List Addr) pins s', Inv (X.blk s H0 scope (compEnvC scope cl C X.env) fp) pins σ H s' →
        wpAny (model X.prog X.w) X.A (forIn ifs true fun c r => if r = true then do let ok ← isTrue c (compEnvC scope cl C X.env) (eval c (compEnvC scope cl C X.env)); pure (ForInStep.yield ok) else pure (ForInStep.yield r)) (TP (X.blk s H0 scope (compEnvC scope cl C X.env) fp) pins σ Q) (fun _ _ => False) s')
      (fun σ H Q => ∀ (s : Shared) (H0 : Hp) (C : Addr) (cl : List (Str × Addr)) (fp : List Addr), tW (X.blk s H0 scope (compEnvC scope cl C X.env) fp) elt σ H Q) own σ H Q := by
  rw [ev] at h
  refine hi e σ Hb H _ I (CA.bind early_V h fun p e0 J Hb0 H0 pk r h1 => ?_)
  obtain ⟨ds, xs, hA, hJ⟩ := r
  exact lc_inner hg hsl hc ht pk.st hA (hJ.f Hb0 H0) h1
end
end Vd
namespace Vd
open PySem PySem.Spec PyProof.Rows L2
section
variable {g : Gx} {kk : Nat} {X : Cx} {W : WX} {ce : CE}
theorem se_lc {tg iter elt : Expr} {ifs : List Expr} {scope : Scope} {pos : Pos} {Gt : TG} {k : Ik} {ts : List T} {c : Option T} {t : T} {own : List (Str × Nat)} (Gd : Good g kk X W) (hk : 0 < kk) (hfold : ∀ x, foldedSetIterable iter X.env x = pure x) (ok : BlkOk X.N X.env.scope scope own)
    (hi : SI g X W tg iter (fun e => (evs ce ts e).bind (itsOf k))) (hg : InB X scope fun X' => SG g X' tg Gt) (hsl : ∀ j ∈ slots Gt, j ∈ own.map (·.2)) (hc : InB X scope fun X' => sTs g X' ifs (evc ce c)) (ht : InB X scope fun X' => SE g X' W0 elt (ev ce t)) :
    SE g X W (.ListComp elt [⟨tg, iter, ifs, 0⟩] scope pos) (ev ce (.lc t Gt k ts c (own.map (·.2)))) := by
  intro e σ Hb H Q I h
  refine tW_of (pe_lc (Gd.calm hk) Gd.nd (pi_W X tg iter) ok ?_ ?_ ?_ hfold) (lc_run hi hg hsl hc ht I h)
  · exact fun s H0 C cl fp => ⟨fun pins s' σ H v u Q J r h => h s H0 C cl fp pins s' u J r⟩
  · exact fun s H0 C cl fp => ⟨fun pins s' σ H Q J h => h s H0 C cl fp pins s' J⟩
  · exact fun s H0 C cl fp => ⟨fun pins s' σ H Q J h => h s H0 C cl fp pins s' J⟩
theorem ss_setlc {tg iter elt : Expr} {ifs : List Expr} {scope : Scope} {pos spos py : Pos} {y : Str} {i : Nat} {Gt : TG} {k : Ik} {ts : List T} {c : Option T} {t : T} {own : List (Str × Nat)} (Gd : Good g kk X W) (hk : 0 < kk) (hfold : ∀ x, foldedSetIterable iter X.env x = pure x) (ok : BlkOk X.N X.env.scope scope own)
    (hi : SI g X W tg iter (fun e => (evs ce ts e).bind (itsOf k))) (hg : InB X scope fun X' => SG g X' tg Gt) (hsl : ∀ j ∈ slots Gt, j ∈ own.map (·.2)) (hc : InB X scope fun X' => sTs g X' ifs (evc ce c)) (ht : InB X scope fun X' => SE g X' W0 elt (ev ce t))
    (hy : X.N[i]? = some y) (hyl : Loc X.env.scope y) (hf : X.fn y = true ∨ X.env.scope.names.lookup y = some .local) (hkd : X.env.scope.kind = .function) : SS1 g X W (.Assign [.Name y py] (.ListComp elt [⟨tg, iter, ifs, 0⟩] scope pos) spos) (ex ce (.set i (.lc t Gt k ts c (own.map (·.2))))) := by
  have hb : X.env.blockKind = .function := by unfold Env.blockKind; rw [hkd]; rfl
  have key : ∀ (b : Bool), swapsWith (.ListComp elt [⟨tg, iter, ifs, 0⟩] scope pos) (some (.Name y py)) spos.line X.env = pure b → (b = true → X.env.scope.names.lookup y = some .local) → SS1 g X W (.Assign [.Name y py] (.ListComp elt [⟨tg, iter, ifs, 0⟩] scope pos) spos) (ex ce (.set i (.lc t Gt k ts c (own.map (·.2))))) := by
    intro b hsw hl
    cases b with
    | false => exact ss_setG (ps_set Gd.nd hy hyl (pe_W X _) hsw hf) (se_lc Gd hk hfold ok hi hg hsl hc ht)
    | true =>
      refine ss_setG (ps_setLc (Gd.calm hk) Gd.nd hy (hl rfl) hsw (pi_W X tg iter) ok ?_ ?_ ?_ hfold) (fun e σ Hb H Q I h => lc_run hi hg hsl hc ht I h)
      · exact fun s H0 C cl fp => ⟨fun pins s' σ H v u Q J r h => h s H0 C cl fp pins s' u J r⟩
      · exact fun s H0 C cl fp => ⟨fun pins s' σ H Q J h => h s H0 C cl fp pins s' J⟩
      · exact fun s H0 C cl fp => ⟨fun pins s' σ H Q J h => h s H0 C cl fp pins s' J⟩
  have hsw : swapsWith (.ListComp elt [⟨tg, iter, ifs, 0⟩] scope pos) (some (.Name y py)) spos.line X.env = pure (X.env.blockKind == .function && X.env.kindOf y == some .local && py.line == (Expr.ListComp elt [⟨tg, iter, ifs, 0⟩] scope pos).pos.line && !(scope.names.any fun (n, k) => n == y && (k == .local || k == .cell))) := by
    unfold swapsWith; rfl
  refine key _ hsw fun hz => ?_
  simp only [Bool.and_eq_true] at hz
  have h1 := hz.1.1.2
  have h2 : X.env.kindOf y = some .local := by
    cases q : X.env.kindOf y with
    | none => rw [q] at h1; cases h1
    | some kd => rw [q] at h1; cases kd <;> first | rfl | (cases h1; done)
  exact h2
end
end Vd
/-! Vd17c: a comprehension over d.items(), d an own dict. -/
namespace Vd
open PySem PySem.Spec PyProof.Rows L2
section
variable {g : Gx} {kk : Nat} {X : Cx} {W : WX} {ce : CE} {σ : L2.St} {Hb H : Hp} {e : VE}
theorem PK.thaw {i : Nat} {bb : Bool} {l : List (DK × D)} {a : Addr} {od : Obj} {kvs : List (Key × V)} (I : VS g Hb e σ H) (h : e[i]? = some (.own bb false (.od l))) (hs : σ[i]? = some (some (.ref a))) (hd : H a = some (.dK kvs)) (rk : Rpk g Hb l kvs)
    {Hb' H' : Hp} {e' : VE} (p : PK g σ Hb (upd H a (.frz od (.dK kvs))) (e.set i (.own bb true (.fd l))) Hb' H' e') :
    H' a = some (.frz od (.dK kvs)) ∧ e'[i]? = some (.own bb true (.fd l)) ∧ PK g σ Hb H e Hb' (upd H' a (.dK kvs)) (e'.set i (.own bb false (.od l))) := by
  obtain ⟨z1, z3, z4, z2⟩ := p.sk.thaw I h hs hd rk
  refine ⟨z1, z3, z2.vp, z2.st, ⟨by rw [List.length_set, p.ek.len, List.length_set], fun j s q => ?_⟩⟩
  by_cases y : i = j
  · subst y
    rw [h] at q; cases q
    exact ⟨_, List.getElem?_set_self (List.getElem?_eq_some_iff.mp z3).1, .same _⟩
  · obtain ⟨s', y1, y2⟩ := p.ek.at' j s (by rw [List.getElem?_set_ne y]; exact q)
    exact ⟨s', by rw [List.getElem?_set_ne y]; exact y1, y2⟩
theorem RV.thaw {i : Nat} {bb : Bool} {l : List (DK × D)} {a : Addr} {od : Obj} {kvs : List (Key × V)} {Hb' H' : Hp} {e' : VE} {v : Val} {x : V} (h : e[i]? = some (.own bb false (.od l))) (hs : σ[i]? = some (some (.ref a))) (z : e'[i]? = some (.own bb true (.fd l)))
    (r : RV g (upd H a (.frz od (.dK kvs))) Hb' H' e' σ v x) : RV g H Hb' (upd H' a (.dK kvs)) (e'.set i (.own bb false (.od l))) σ v x := by
  have hi : i < e'.length := (List.getElem?_eq_some_iff.mp z).1
  cases v with
  | p d => exact r
  | vw j =>
    obtain ⟨h1, s, h2, n⟩ := r
    by_cases y : i = j
    · subst y
      exact ⟨h1, _, List.getElem?_set_self hi, fun q => by cases q⟩
    · exact ⟨h1, s, by rw [List.getElem?_set_ne y]; exact h2, n⟩
  | fr c =>
    obtain ⟨a2, rfl, h0, h1, h2, h3⟩ := r
    have ne : a2 ≠ a := fun q => h3 (.inr ⟨i, bb, true, _, z, by rw [hs, q]⟩)
    exact ⟨a2, rfl, by rw [upd_ne ne] at h0; exact h0, h1, h2.mono (.refl _) fun o h => by rw [upd_ne ne]; exact h, by rw [ow_turn z]; exact h3⟩
theorem CA.thaw {i : Nat} {bb : Bool} {l : List (DK × D)} {a : Addr} {od : Obj} {kvs : List (Key × V)} {r : R Val} {Q : VK} (I : VS g Hb e σ H) (h : e[i]? = some (.own bb false (.od l))) (hs : σ[i]? = some (some (.ref a))) (hd : H a = some (.dK kvs)) (rk : Rpk g Hb l kvs)
    (q : CA (PV g σ) g W σ Hb H e (r.thaw i (.own bb false (.od l))) Q) : CA (PV g σ) g W σ Hb (upd H a (.frz od (.dK kvs))) (e.set i (.own bb true (.fd l))) r fun v H' => H' a = some (.frz od (.dK kvs)) ∧ Q v (upd H' a (.dK kvs)) := by
  cases r with
  | ok v e' =>
    intro x Hb' H' p rv
    obtain ⟨z1, z3, z2⟩ := p.thaw I h hs hd rk
    exact ⟨z1, q x Hb' _ z2 (rv.thaw h hs z3)⟩
  | rz x e' => exact q.elim
  | no => exact q.elim
theorem se_lcit {elt : Expr} {x : Str} {p ap cp tpos pos : Pos} {elts : List Expr} {q : Nat} {ifs : List Expr} {scope : Scope} {G : TG} {i : Nat} {c : Option T} {t : T} {own : List (Str × Nat)} (Gd : Good g kk X W) (hk : 0 < kk) (ok : BlkOk X.N X.env.scope scope own) (hl : (ap.endLine == cp.line) = true)
    (ha : SE g X W (.Name x p) (ev ce (.var i))) (hg : InB X scope fun X' => SG g X' (.Tuple elts q tpos) G) (hsl : ∀ j ∈ slots G, j ∈ own.map (·.2)) (hc : InB X scope fun X' => sTs g X' ifs (evc ce c)) (ht : InB X scope fun X' => SE g X' W0 elt (ev ce t)) :
    SE g X W (.ListComp elt [⟨.Tuple elts q tpos, .Call (.Attribute (.Name x p) "items" ap) [] [] cp, ifs, 0⟩] scope pos) (ev ce (.lcit t G i c (own.map (·.2)))) := by
  intro e σ Hb H Q I h
  unfold ev at h
  cases q1 : e[i]? with
  | none => rw [q1] at h; exact h.elim
  | some s0 =>
    rw [q1] at h
    cases s0 with
    | un => exact h.elim
    | dat d => exact h.elim
    | own bb k oc =>
      cases k with
      | true => exact h.elim
      | false =>
        cases oc with
        | ol l => exact h.elim
        | oi c l => exact h.elim
        | fd l => exact h.elim
        | od l =>
          dsimp only at h
          cases q2 : itemsD l with
          | none => rw [q2] at h; exact h.elim
          | some ds =>
            rw [q2] at h
            dsimp only at h
            obtain ⟨a, hs, hba, kvs, hd, rk⟩ := I.own i _ _ _ q1
            suffices key : tLockE (tLc (iItems (tW X (.Name x p))) (fun x σ H Q => ∀ (s : Shared) (H0 : Hp) (C : Addr) (cl : List (Str × Addr)) (fp : List Addr), gW (X.blk s H0 scope (compEnvC scope cl C X.env) fp) (.Tuple elts q tpos) x σ H Q)
                (fun σ H Q => ∀ (s : Shared) (H0 : Hp) (C : Addr) (cl : List (Str × Addr)) (fp : List Addr) pins s', Inv (X.blk s H0 scope (compEnvC scope cl C X.env) fp) pins σ H s' →
                  wpAny (model X.prog X.w) X.A (forIn ifs true fun c r => if r = true then do let ok ← isTrue c (compEnvC scope cl C X.env) (eval c (compEnvC scope cl C X.env)); pure (ForInStep.yield ok) else pure (ForInStep.yield r)) (TP (X.blk s H0 scope (compEnvC scope cl C X.env) fp) pins σ Q) (fun _ _ => False) s')
                (fun σ H Q => ∀ (s : Shared) (H0 : Hp) (C : Addr) (cl : List (Str × Addr)) (fp : List Addr), tW (X.blk s H0 scope (compEnvC scope cl C X.env) fp) elt σ H Q) (own.map (·.2))) σ H Q by
              refine tW_of (pe_lock (pe_lc (Gd.calm hk) Gd.nd (pi_items (pe_W X (.Name x p)) rfl hl) ok ?_ ?_ ?_ (fun _ => rfl))) key
              · exact fun s H0 C cl fp => ⟨fun pins s' σ H v u Q J r h => h s H0 C cl fp pins s' u J r⟩
              · exact fun s H0 C cl fp => ⟨fun pins s' σ H Q J h => h s H0 C cl fp pins s' J⟩
              · exact fun s H0 C cl fp => ⟨fun pins s' σ H Q J h => h s H0 C cl fp pins s' J⟩
            refine ⟨a, .dK kvs, hd, trivial, fun od => ?_⟩
            have I1 : VS g Hb (e.set i (.own bb true (.fd l))) σ (upd H a (.frz od (.dK kvs))) := I.write2 q1 hs ⟨od, kvs, upd_same, rk⟩
            have h1 := CA.thaw (od := od) I q1 hs hd rk h
            have hi1 : (e.set i (.own bb true (.fd l)))[i]? = some (.own bb true (.fd l)) := List.getElem?_set_self (List.getElem?_eq_some_iff.mp q1).1
            refine ha _ σ Hb _ _ I1 ?_
            unfold ev
            rw [hi1]
            intro x1 Hb0 H0 pk rv
            obtain ⟨sx, hx⟩ : ∃ y, y = x1 ∧ σ[i]? = some (some y) := ⟨x1, rfl, rv.1⟩
            obtain ⟨rfl, hx⟩ := hx
            rw [hs] at hx
            cases hx
            have f0 : H0 a = some (.frz od (.dK kvs)) := pk.vp.f a _ _ upd_same
            refine ⟨a, od, kvs, rfl, f0, ?_⟩
            obtain ⟨il, ig⟩ := items_get rk q2
            have hJ : JOkF g Hb0 H0 [] [] ds (Iti a od kvs) := {
              go := fun Hb' H' j d hb fz ex rr hj => by
                have hlt := (List.getElem?_eq_some_iff.mp hj).1
                refine ⟨⟨fz a _ _ f0, by omega⟩, fun y H'' hy => ?_⟩
                obtain ⟨T, k, v, hkv, rfl, hT, rfl⟩ := hy
                have hbT : Hb' T = none := ex.back hT
                exact .inr ⟨T, _, hT, rfl, ig j d k v hj hkv T _ ((pk.vp.b.trans hb).trans (.new hbT)) upd_same⟩
              stop := fun Hb' H' j hb fz ex rr hj => ⟨fz a _ _ f0, by omega⟩ }
            exact lc_inner (p := ([], ds)) hg hsl hc ht pk.st ⟨rfl, rfl⟩ hJ (CA.shift early_V pk h1)
end
end Vd
/-! Vd18: what a text says, checked; sound. -/
namespace Vd
open PySem PySem.Spec PyProof.Rows L2
/-- what is known of a def's text: its slots, the scope at the place, cells that may be stored to, what the module's names stand for -/
structure Cf where
  N : List Str
  sc : Scope
  cl : List Str
  fs : List (Str × Nat × Nat)
  cs : List (Str × Nat)
  bs : List Str
  ks : List (Str × Nat × List Str × Nat) := []
  hot : Bool := false
  xs : List (Str × Nat) := []
  rs : List (Str × Nat) := []
  fl : List (Nat × Str) := []
  ts : List (Str × Nat) := []
  fsl : List (Str × Nat × Nat) := []
  ksl : List (Str × Nat × List Str × Nat) := []
  rp : Bool := false
/-- the place has a table of code objects -/
def Lam (X : Cx) (g : Gx) : Prop := g.rp = false ∧ ∃ (c P : Addr) (T : List (Addr × Str)), X.env.code = .ref c ∧ LamX.TabB X.base X.mg c P ∧ (P, X.env.qual ++ "<lambda>") ∈ T ∧ (∀ p ∈ T, p.1 = P → p.2 = X.env.qual ++ "<lambda>") ∧ (∀ H, g.tok H ↔ LamX.Tabs T H) ∧ (∀ a, g.tb a ↔ ∃ p ∈ T, p.1 = a)
def noPar : Arguments := ⟨[], [], none, [], [], none, []⟩
/-- the def x, handed a lambda, tells what happened -/
def TolF (P : Program) (w : World) (mg : Str → Option Value) (base : Heap) (g : Gx) (ce : CE) (x : Str) (f : Nat) : Prop :=
  ∀ (X : Cx) (W : WX) (kk : Nat) (body : Expr) (sc : Scope) (p lp pos : Pos) (t : T), X.prog = P → X.w = w → X.mg = mg → X.base = base → Good g kk X W → 3 ≤ kk → Gl X x → Lam X g → LamX.LamS X.env.scope sc →
    (∀ (A : Around) (outer : List Env) (s : Shared) (H : Hp) (E : XK) (f' c' : Addr), Room (kk - 3) (A.deeper (LamX.lamEnv X sc s.heap.objs.size f' c')) → SE g (LamX.lamCx X A outer s H E sc f' c') (fun cls d _ H => E cls d H) body (ev ce t)) →
    SE g X W (.Call (.Name x p) [.Lambda noPar body sc lp] [] pos) (ev ce (.told f t))
def cellsOf (sc : Scope) : List Str := (sc.names.filter fun p => decide (p.2 = .cell)).map (·.1)
/-- in an except suite nothing is called or raised -/
def Cf.heat (cf : Cf) : Cf := { cf with hot := true, fs := [], ks := [], rs := [], ts := [], fsl := [], ksl := [] }
/-- the body of a lambda -/
def Cf.lam (cf : Cf) (sc : Scope) : Cf := { cf with sc := sc, cl := [], fs := cf.fsl, ks := cf.ksl, rs := [], ts := [], fsl := [], ksl := [], hot := false }
def Cf.blk (cf : Cf) (scope : Scope) : Cf := { cf with sc := relS scope cf.sc, cl := cellsOf scope, ts := [] }
structure Fit (cf : Cf) (g : Gx) (ce : CE) (kk : Nat) (X : Cx) : Prop where
  N : X.N = cf.N
  sc : X.env.scope = cf.sc
  kind : cf.sc.kind = .function
  fn : ∀ x ∈ cf.cl, cf.sc.names.lookup x = some .cell → X.fn x = true
  fs : ∀ x f n, (x, f, n) ∈ cf.fs → ∃ k addr fd ps, FnR g.rp X.prog X.w X.K X.mg X.base (L2.CX X.prog X.w) k addr fd ps (spD g ps.length (ce.fn f)) ∧ k + 1 ≤ kk ∧ X.mg x = some (.ref addr) ∧ PySem.W.keepIn X.K (.ref addr) = true ∧ Binds X.K fd ps [] ∧ ps.length = n
  cs : ∀ x c, (x, c) ∈ cf.cs → ∃ u v, X.mg x = some u ∧ RelV v u ∧ ∀ Hb, Rp g Hb (ce.con c) v
  bs : ∀ x ∈ cf.bs, X.mg x = none
  hot : cf.hot = false → 0 < kk
  xs : ∀ x k, (x, k) ∈ cf.xs → (∃ v, ClsV v (g.cv k)) ∧ (X.mg x = some (g.cv k) ∨ (X.mg x = none ∧ bootBuiltins x = some (g.cv k) ∧ x ≠ "__name__"))
  cls : ClsF X.K g ce
  rs : ∀ x c, (x, c) ∈ cf.rs → RseF X.prog X.w X.K X.mg X.base g ce x c ∧ 3 ≤ kk
  fl : ∀ n x, (n, x) ∈ cf.fl → g.fl n = x
  ks : ∀ x f ps i, (x, f, ps, i) ∈ cf.ks → ∃ k addr fd, FnR g.rp X.prog X.w X.K X.mg X.base (L2.CX X.prog X.w) k addr fd ps (spD g ps.length (ce.fn f)) ∧ k + 1 ≤ kk ∧ X.mg x = some (.ref addr) ∧ PySem.W.keepIn X.K (.ref addr) = true ∧ KB X.K fd ps i
  lam : cf.ts ≠ [] → Lam X g ∧ 3 ≤ kk
  ts : ∀ x f, (x, f) ∈ cf.ts → TolF X.prog X.w X.mg X.base g ce x f
  fsl : ∀ x f n, (x, f, n) ∈ cf.fsl → ∃ k addr fd ps, FnR g.rp X.prog X.w X.K X.mg X.base (L2.CX X.prog X.w) k addr fd ps (spD g ps.length (ce.fn f)) ∧ k + 3 ≤ kk ∧ X.mg x = some (.ref addr) ∧ PySem.W.keepIn X.K (.ref addr) = true ∧ Binds X.K fd ps [] ∧ ps.length = n
  ksl : ∀ x f ps i, (x, f, ps, i) ∈ cf.ksl → ∃ k addr fd, FnR g.rp X.prog X.w X.K X.mg X.base (L2.CX X.prog X.w) k addr fd ps (spD g ps.length (ce.fn f)) ∧ k + 3 ≤ kk ∧ X.mg x = some (.ref addr) ∧ PySem.W.keepIn X.K (.ref addr) = true ∧ KB X.K fd ps i
  rp : cf.rp = true → g.rp = true
def visB (sc : Scope) (x : Str) : Bool := decide (sc.names.lookup x = some .local) || decide (sc.names.lookup x = some .cell) || decide (sc.names.lookup x = some .free)
def locB (cf : Cf) (x : Str) : Bool := decide (cf.sc.names.lookup x = some .local) || (decide (cf.sc.names.lookup x = some .cell) && decide (x ∈ cf.cl))
def glB (cf : Cf) (x : Str) : Bool := decide (cf.sc.names.lookup x = some .globalImplicit)
def plainN (x : Str) : Bool := decide (x ≠ "__debug__") && decide (x ≠ "__classdict__") && decide (x ≠ "__name__")
def bltB (cf : Cf) (x : Str) : Bool := glB cf x && decide (x ∈ cf.bs)
def nmB : B1 → Str
  | .len => "len"
  | .int => "int"
  | .str => "str"
  | .bool => "bool"
  | .tuple => "tuple"
  | .list => "list"
  | .all => "all"
  | .any => "any"
  | .sum => "sum"
  | .ord => "ord"
  | .chr => "chr"
  | .repr => "repr"
  | .setlen => "set"
  | .max => "max"
  | .min => "min"
  | .abs => "abs"
  | .lrg => "list"
  | .reprd => "repr"
  | .dget => "get"
def o2B : O2 → Operator → Bool
  | .add, .Add => true
  | .sub, .Sub => true
  | .mul, .Mult => true
  | .fdiv, .FloorDiv => true
  | .mod, .Mod => true
  | .pow, .Pow => true
  | _, _ => false
def cqB : Cq → CmpOp → Bool
  | .eq, .Eq => true
  | .ne, .NotEq => true
  | .lt, .Lt => true
  | .le, .LtE => true
  | .gt, .Gt => true
  | .ge, .GtE => true
  | .isin, .In => true
  | .notin, .NotIn => true
  | .is, .Is => true
  | .isnt, .IsNot => true
  | _, _ => false
theorem o2B_eq {o : O2} {p : Operator} (h : o2B o p = true) : p = o2 o := by cases o <;> cases p <;> first | rfl | (cases h; done)
theorem cqB_eq {o : Cq} {p : CmpOp} (h : cqB o p = true) : p = cq o := by cases o <;> cases p <;> first | rfl | (cases h; done)
def keyB : DK → Option Expr → Bool
  | .inl i, some (.Constant (.int j) _ _) => decide (i = j)
  | .inr l, some (.Constant (.str s) _ _) => decide (sT l = s)
  | _, _ => false
def keysB : List DK → List (Option Expr) → Bool
  | [], [] => true
  | k :: l, e :: m => keyB k e && keysB l m
  | _, _ => false
def tyB (cf : Cf) (t : Ty) : Expr → Bool
  | .Name x _ => decide (x = Str.ofString (tyN t)) && bltB cf x && (match t with | .own _ => false | _ => true)
  | _ => false
def cnB (cf : Cf) (c : Nat) : Expr → Bool
  | .Name x _ => glB cf x && decide (x ≠ "__debug__") && decide ((x, c) ∈ cf.xs)
  | _ => false
def cnsB (cf : Cf) : List Nat → List Expr → Bool
  | [], [] => true
  | c :: l, e :: m => cnB cf c e && cnsB cf l m
  | _, _ => false
/-- an except clause for one class: its suite -/
def hdB (cf : Cf) (c : Nat) (i : Option Nat) : ExceptHandler → Option (List Stmt)
  | .ExceptHandler (some (.Name x p)) none (b :: su) _ => if cnB cf c (.Name x p) = true ∧ i = none then some (b :: su) else none
  | .ExceptHandler (some (.Name x p)) (some n) (b :: su) _ => match i with
    | some j => if cnB cf c (.Name x p) = true ∧ cf.N[j]? = some n ∧ cf.sc.names.lookup n = some .local then some (b :: su) else none
    | none => none
  | _ => none
def tysB (cf : Cf) : List Ty → List Expr → Bool
  | [], [] => true
  | t :: l, e :: m => tyB cf t e && tysB cf l m
  | _, _ => false
/-- the arguments of what is walked -/
def iterB (cf : Cf) : Ik → Expr → Expr → Option (List Expr)
  | .seq, _, .Set _ _ _ => none
  | .seq, _, e => some [e]
  | .rng, _, .Call (.Name f _) [a] [] _ => if f = "range" ∧ bltB cf f = true then some [a] else none
  | .rng, _, .Call (.Name f _) [a, b] [] _ => if f = "range" ∧ bltB cf f = true then some [a, b] else none
  | .rng, _, .Call (.Name f _) [a, b, c] [] _ => if f = "range" ∧ bltB cf f = true then some [a, b, c] else none
  | .rev, _, .Call (.Name f _) [a] [] _ => if f = "reversed" ∧ bltB cf f = true then some [a] else none
  | .rrng, _, .Call (.Name f _) [.Call (.Name h _) [a] [] _] [] _ => if f = "reversed" ∧ bltB cf f = true ∧ h = "range" ∧ bltB cf h = true then some [a] else none
  | .enum, .Tuple _ _ _, .Call (.Name f _) [a] [] _ => if f = "enumerate" ∧ bltB cf f = true then some [a] else none
  | .zip, .Tuple _ _ _, .Call (.Name f _) [a, b] [] _ => if f = "zip" ∧ bltB cf f = true then some [a, b] else none
  | _, _, _ => none
mutual
def tgB (cf : Cf) : TG → Expr → Bool
  | .nm i, .Name x _ => decide (cf.N[i]? = some x) && locB cf x
  | .tp l, .Tuple es _ _ => !cf.hot && tgsB cf l es
  | _, _ => false
def tgsB (cf : Cf) : List TG → List Expr → Bool
  | [], [] => true
  | t :: l, e :: m => noStar e && tgB cf t e && tgsB cf l m
  | _, _ => false
end
def notB : Expr → Bool
  | .UnaryOp .Not _ _ => false
  | .BoolOp _ _ _ => false
  | .IfExp _ _ _ _ => false
  | .Compare _ _ _ _ => false
  | _ => true
def rvB : Expr → Option Expr
  | .Subscript ea (.Slice none none (some (.UnaryOp .USub (.Constant (.int i) _ _) _)) _) _ => if i = 1 then some ea else none
  | _ => none
structure LamQ where
  x : Str
  p : Pos
  body : Expr
  sc : Scope
  lp : Pos
  pos : Pos
def lamP : Expr → Option LamQ
  | .Call (.Name x p) [.Lambda ⟨[], [], none, [], [], none, []⟩ body sc lp] [] pos => some ⟨x, p, body, sc, lp, pos⟩
  | _ => none
theorem lamP_eq {e : Expr} {q : LamQ} (h : lamP e = some q) : e = .Call (.Name q.x q.p) [.Lambda noPar q.body q.sc q.lp] [] q.pos := by
  unfold lamP at h
  split at h
  · cases h; rfl
  · cases h
theorem rvB_eq {x ea : Expr} (h : rvB x = some ea) : ∃ k p1 p2 p3 pos, x = .Subscript ea (.Slice none none (some (.UnaryOp .USub (.Constant (.int 1) k p1) p2)) p3) pos := by
  unfold rvB at h
  split at h
  · split at h
    · rename_i hi
      subst hi
      cases h
      exact ⟨_, _, _, _, _, rfl⟩
    · cases h
  · cases h
structure IcQ where
  els : List Expr
  kt : Nat
  tp : Pos
  x : Str
  px : Pos
  ap : Pos
  cp : Pos
def icP : Expr → Expr → Option IcQ
  | .Tuple els kt tp, .Call (.Attribute (.Name x px) nm ap) [] [] cp => if nm = "items" then some ⟨els, kt, tp, x, px, ap, cp⟩ else none
  | _, _ => none
theorem icP_eq {tg iter : Expr} {q : IcQ} (h : icP tg iter = some q) : tg = .Tuple q.els q.kt q.tp ∧ iter = .Call (.Attribute (.Name q.x q.px) "items" q.ap) [] [] q.cp := by
  unfold icP at h
  split at h
  · split at h
    · rename_i hn
      subst hn
      cases h; exact ⟨rfl, rfl⟩
    · cases h
  · cases h
mutual
def chk : T → Bool → Cf → Expr → Bool
  | .var i, _, cf, .Name x _ => decide (cf.N[i]? = some x) && visB cf.sc x && plainN x
  | .int i, _, _, .Constant (.int j) _ _ => decide (i = j)
  | .bl b, _, _, .Constant (.bool c) _ _ => decide (b = c)
  | .non, _, _, .Constant .none _ _ => true
  | .str l, _, _, .Constant (.str s) _ _ => decide (sT l = s) && decide (l.length ≤ line)
  | .con k, _, cf, .Name x _ => glB cf x && decide ((x, k) ∈ cf.cs) && plainN x
  | .bin o a b, _, cf, .BinOp ea op eb _ => o2B o op && chk a false cf ea && chk b false cf eb
  | .cmp o a b, _, cf, .Compare ea [op] [eb] _ => cqB o op && !(behindInMarks op eb) && chk a false cf ea && chk b false cf eb
  | .chn o p a b c, _, cf, .Compare ea [op, pp] [eb, ec] _ => cqB o op && cqB p pp && !(lastMarks [op, pp] [eb, ec]) && chk a false cf ea && chk b false cf eb && chk c false cf ec
  | .and a b, m, cf, .BoolOp .And (ea :: eb :: rest) p => chk a m cf ea && chk b m cf (match rest with | [] => eb | _ => .BoolOp .And (eb :: rest) p)
  | .or a b, m, cf, .BoolOp .Or (ea :: eb :: rest) p => chk a m cf ea && chk b m cf (match rest with | [] => eb | _ => .BoolOp .Or (eb :: rest) p)
  | .not a, m, cf, .UnaryOp .Not ea _ => chk a m cf ea
  | .neg a, _, cf, .UnaryOp .USub ea _ => chk a false cf ea
  | .ite c a b, m, cf, .IfExp ec ea eb _ => !m && chk c true cf ec && chk a false cf ea && chk b false cf eb
  | .tup l, _, cf, .Tuple es _ _ => chkA l cf es
  | .lst l, _, cf, .List es _ => chkA l cf es
  | .dct ks l, _, cf, .Dict keys vals _ => keysB ks keys && decide (ks.length = vals.length) && decide (vals.length ≤ 15) && chkA l cf vals
  | .ix a b, _, cf, .Subscript ea eb _ => noSlice eb && chk a false cf ea && chk b false cf eb
  | .sl a lo hi, _, cf, .Subscript ea (.Slice elo ehi none _) _ => chk a false cf ea && chkO lo cf elo && chkO hi cf ehi
  | .rvl a, _, cf, x => match rvB x with
    | some ea => chk a false cf ea
    | none => false
  | .call f l, _, cf, .Call (.Name x _) es [] _ => glB cf x && decide ((x, f, l.length) ∈ cf.fs) && plainN x && chkA l cf es
  | .call f l, _, cf, .Call (.Name x _) es (kw :: kws) _ => glB cf x && plainN x && chkA l cf (es ++ (kw :: kws).map (·.value)) && cf.ks.any (fun q => decide (q.1 = x) && decide (q.2.1 = f) && decide (q.2.2.2 = es.length) && decide (l.length = q.2.2.1.length) && decide ((kw :: kws).map (·.arg) = (q.2.2.1.drop es.length).map some))
  | .bi b l, _, cf, .Call (.Name x _) es [] _ => !cf.hot && match b with
    | .setlen => decide (x = "len") && bltB cf x && (match es with
      | [.Call (.Name y _) as [] _] => decide (y = "set") && bltB cf y && decide (l.length = 1) && chkA l cf as
      | _ => false)
    | .lrg => decide (x = "list") && bltB cf x && (match es with
      | [.Call (.Name y _) as [] _] => decide (y = "range") && bltB cf y && decide (l.length = 3) && chkA l cf as
      | _ => false)
    | .dget => false
    | .reprd => cf.rp && decide (x = "repr") && bltB cf x && decide (l.length = 1) && chkA l cf es
    | b => decide (x = nmB b) && bltB cf x && !es.isEmpty && chkA l cf es
  | .bi .dget [.dct ks l, tk, td], _, cf, .Call (.Attribute (.Dict keys vals dp) nm ap) [ek, ed] [] cp => decide (nm = "get") && (ap.endLine == cp.line) && noStar ek && noStar ed && chk (.dct ks l) false cf (.Dict keys vals dp) && chk tk false cf ek && chk td false cf ed
  | .mt m a l, _, cf, .Call (.Attribute ea nm ap) es [] cp => decide (nm = mNm m) && noCall ea && (ap.endLine == cp.line) && chk a false cf ea && chkA l cf es && (match m, l with
    | .append, [_] => true
    | .extend, [_] => true
    | .pop, [] => true
    | .insert, [_, _] => true
    | _, _ => false)
  | .pm m a l, _, cf, .Call (.Attribute ea nm ap) [v] [] cp => decide (nm = pmNm m) && noCall ea && (ap.endLine == cp.line) && noStar v && chk a false cf ea && chkA l cf [v]
  | .isi a ts, _, cf, .Call (.Name x _) [ea, et] [] _ => decide (x = "isinstance") && bltB cf x && noStar ea && chk a false cf ea && (match ts, et with
    | [t], .Name y p => tyB cf t (.Name y p)
    | ts, .Tuple es _ _ => tysB cf ts es && !ts.isEmpty && decide (ts.length ≤ 100)
    | _, _ => false)
  | .isx a cs, _, cf, .Call (.Name x _) [ea, et] [] _ => decide (x = "isinstance") && bltB cf x && noStar ea && chk a false cf ea && (match cs, et with
    | [c], .Name y p => cnB cf c (.Name y p)
    | cs, .Tuple es _ _ => cnsB cf cs es && !cs.isEmpty && decide (cs.length ≤ 100)
    | _, _ => false)
  | .fld a n, _, cf, .Attribute ea nm _ => decide ((n, nm) ∈ cf.fl) && noCall ea && chk a false cf ea
  | .frz a, m, cf, x => !m && chk a false cf x
  | .told f t, m, cf, x => !m && match lamP x with
    | some q => glB cf q.x && plainN q.x && decide ((q.x, f) ∈ cf.ts) && LamX.lamSB cf.sc q.sc && chk t false (cf.lam q.sc) q.body
    | none => false
  | .lc t G k l c own, _, cf, .ListComp elt [⟨tg, iter, ifs, asy⟩] scope _ => !cf.hot && decide (asy = 0) && blkC cf.N cf.sc scope (own.map fun i => (cf.N.getD i "", i)) && (slots G).all (fun j => decide (j ∈ own)) && tgB (cf.blk scope) G tg && chk t false (cf.blk scope) elt && (match iterB cf k tg iter with
      | some es => chkA l cf es
      | none => false) && (match ifs with
      | [] => c.isNone
      | [ec] => chkO' c (cf.blk scope) ec
      | _ => false)
  | .lcit t G i c own, _, cf, .ListComp elt [⟨tg, iter, ifs, asy⟩] scope _ => !cf.hot && decide (asy = 0) && blkC cf.N cf.sc scope (own.map fun i => (cf.N.getD i "", i)) && (slots G).all (fun j => decide (j ∈ own)) && tgB (cf.blk scope) G tg && chk t false (cf.blk scope) elt && (match icP tg iter with
      | some q => (q.ap.endLine == q.cp.line) && decide (cf.N[i]? = some q.x) && visB cf.sc q.x && plainN q.x
      | none => false) && (match ifs with
      | [] => c.isNone
      | [ec] => chkO' c (cf.blk scope) ec
      | _ => false)
  | _, _, _, _ => false
def chkA : List T → Cf → List Expr → Bool
  | [], _, [] => true
  | t :: l, cf, e :: m => noStar e && chk t false cf e && chkA l cf m
  | _, _, _ => false
def chkO : Option T → Cf → Option Expr → Bool
  | none, _, none => true
  | some t, cf, some e => chk t false cf e
  | _, _, _ => false
def chkO' : Option T → Cf → Expr → Bool
  | none, _, _ => false
  | some t, cf, e => chk t true cf e
end
def swB (cf : Cf) (x y : Str) (px py : Pos) (vs : List Expr) : Bool :=
  decide (cf.sc.names.lookup x = some .local) && decide (cf.sc.names.lookup y = some .local) && (px.line == py.line) && decide (x ≠ y) && !(vs.all (foldedForSure 8)) && !(vs.all (constantsAlone 8))
def parP : Stmt → Option (Str × Pos × Str × Pos × Expr × Expr)
  | .Assign [.Tuple [.Name x px, .Name y py] _ _] (.Tuple [a, b] _ _) _ => some (x, px, y, py, a, b)
  | _ => none
theorem parP_eq {st : Stmt} {q : Str × Pos × Str × Pos × Expr × Expr} (h : parP st = some q) : ∃ kt pt k2 p2 p, st = .Assign [.Tuple [.Name q.1 q.2.1, .Name q.2.2.1 q.2.2.2.1] kt pt] (.Tuple [q.2.2.2.2.1, q.2.2.2.2.2] k2 p2) p := by
  unfold parP at h
  split at h
  · cases h; exact ⟨_, _, _, _, _, rfl⟩
  · cases h
/-- a, b = e: no swapped stores -/
def unB : List Expr → Expr → Bool
  | ts, .Tuple vs _ _ => vs.all (foldedForSure 8) || !(ts.length == 2 || ts.length == 3) || vs.length != ts.length
  | _, _ => true
/-- .. nor where a name lies in a cell -/
def celT (cf : Cf) (ts : List Expr) : Bool := ts.any fun
  | .Name x _ => decide (cf.sc.names.lookup x = some .cell)
  | _ => false
structure P3 where
  x : Str
  px : Pos
  y : Str
  py : Pos
  z : Str
  pz : Pos
  a : Expr
  b : Expr
  c : Expr
def parP3 : Stmt → Option P3
  | .Assign [.Tuple [.Name x px, .Name y py, .Name z pz] _ _] (.Tuple [a, b, c] _ _) _ => some ⟨x, px, y, py, z, pz, a, b, c⟩
  | _ => none
theorem parP3_eq {st : Stmt} {q : P3} (h : parP3 st = some q) : ∃ kt pt k2 p2 p, st = .Assign [.Tuple [.Name q.x q.px, .Name q.y q.py, .Name q.z q.pz] kt pt] (.Tuple [q.a, q.b, q.c] k2 p2) p := by
  unfold parP3 at h
  split at h
  · cases h; exact ⟨_, _, _, _, _, rfl⟩
  · cases h
def rseP : Stmt → Option (Str × Expr × List Expr)
  | .Raise (some (.Call (.Name x _) (e :: es) [] _)) none _ => some (x, e, es)
  | _ => none
theorem rseP_eq {st : Stmt} {x : Str} {e : Expr} {es : List Expr} (h : rseP st = some (x, e, es)) : ∃ p1 p2 p3, st = .Raise (some (.Call (.Name x p1) (e :: es) [] p2)) none p3 := by
  unfold rseP at h
  split at h
  · cases h; exact ⟨_, _, _, rfl⟩
  · cases h
def tryP : Stmt → Option (List Stmt × ExceptHandler × Option ExceptHandler)
  | .Try body [h] [] [] _ => some (body, h, none)
  | .Try body [h, h2] [] [] _ => some (body, h, some h2)
  | _ => none
theorem tryP_eq {st : Stmt} {body : List Stmt} {h : ExceptHandler} {o : Option ExceptHandler} (q : tryP st = some (body, h, o)) : ∃ p, st = .Try body (h :: o.toList) [] [] p := by
  unfold tryP at q
  split at q
  · cases q; exact ⟨_, rfl⟩
  · cases q; exact ⟨_, rfl⟩
  · cases q
structure ItQ where
  els : List Expr
  kt : Nat
  tp : Pos
  x : Str
  px : Pos
  ap : Pos
  cp : Pos
  body : List Stmt
  p : Pos
def itP : Stmt → Option ItQ
  | .For (.Tuple els kt tp) (.Call (.Attribute (.Name x px) nm ap) [] [] cp) body [] p => if nm = "items" then some ⟨els, kt, tp, x, px, ap, cp, body, p⟩ else none
  | _ => none
theorem itP_eq {st : Stmt} {q : ItQ} (h : itP st = some q) : st = .For (.Tuple q.els q.kt q.tp) (.Call (.Attribute (.Name q.x q.px) "items" q.ap) [] [] q.cp) q.body [] q.p := by
  unfold itP at h
  split at h
  · split at h
    · rename_i hn
      subst hn
      cases h; rfl
    · cases h
  · cases h
def hdL (cf : Cf) (cs : List Nat) (i : Option Nat) (h : ExceptHandler) : Option (List Stmt) := match cs with
  | [c] => hdB cf c i h
  | _ => none
def swB3 (cf : Cf) (q : P3) : Bool :=
  decide (cf.sc.names.lookup q.x = some .local) && decide (cf.sc.names.lookup q.y = some .local) && decide (cf.sc.names.lookup q.z = some .local) && (q.px.line == q.py.line) && (q.px.line == q.pz.line) && decide (q.x ≠ q.y) && decide (q.x ≠ q.z) && decide (q.y ≠ q.z) && !([q.a, q.b, q.c].all (foldedForSure 8)) && !([q.a, q.b, q.c].all (constantsAlone 8))
mutual
def chkS : S → Cf → Stmt → Bool
  | .set i t, cf, .Assign [.Name x _] a _ => decide (cf.N[i]? = some x) && locB cf x && chk t false cf a && (match t with
    | .lc _ _ _ _ _ _ => true
    | _ => noComp a)
  | .par [i, j] [ta, tb], cf, st => match parP st with
    | some (x, px, y, py, a, b) => !cf.hot && decide (cf.N[i]? = some x) && decide (cf.N[j]? = some y) && decide (i ≠ j) && swB cf x y px py [a, b] && noStar a && noStar b && chk ta false cf a && chk tb false cf b
    | none => false
  | .par [i, j, l] [ta, tb, tc], cf, st => match parP3 st with
    | some q => !cf.hot && decide (cf.N[i]? = some q.x) && decide (cf.N[j]? = some q.y) && decide (cf.N[l]? = some q.z) && decide (i ≠ j) && decide (i ≠ l) && decide (j ≠ l) && swB3 cf q && noStar q.a && noStar q.b && noStar q.c && chk ta false cf q.a && chk tb false cf q.b && chk tc false cf q.c
    | none => false
  | .unp (.tp Gs) t, cf, .Assign [.Tuple tgs _ _] a _ => !cf.hot && tgsB cf Gs tgs && noComp a && (unB tgs a || celT cf tgs) && chk t false cf a
  | .sub ta ti tv, cf, .Assign [.Subscript a b _] v _ => noComp v && noSlice b && chk ta false cf a && chk ti false cf b && chk tv false cf v
  | .exp t, cf, .Expr a _ => noComp a && chk t false cf a
  | .ret t, cf, .Return (some a) _ => chk t false cf a
  | .retn, _, .Return none _ => true
  | .ifs c a b, cf, .If ec ea eb _ => chk c true cf ec && chkSs a cf ea && chkSs b cf eb
  | .fors G k l b, cf, .For tg iter body [] _ => !cf.hot && tgB cf G tg && (match iter with | .Set _ _ _ => false | _ => true) && (match iterB cf k tg iter with
      | some es => chkA l cf es
      | none => false) && chkSs b cf body
  | .whl _ c b, cf, .While ec body [] _ => chk c true cf ec && chkSs b cf body
  | .forit G i b, cf, st => match itP st with
    | some q => !cf.hot && tgB cf G (.Tuple q.els q.kt q.tp) && (q.ap.endLine == q.cp.line) && chk (.var i) false cf (.Name q.x q.px) && chkSs b cf q.body
    | none => false
  | .brk, _, .Break _ => true
  | .cnt, _, .Continue _ => true
  | .pas, _, .Pass _ => true
  | .bad, _, _ => true
  | .rse c l, cf, st => match rseP st with
    | some (x, e1, es) => !cf.hot && glB cf x && decide (x ≠ "__debug__") && decide ((x, c) ∈ cf.rs) && chkA l cf (e1 :: es)
    | none => false
  | .tryc b cs i s cs2 i2 s2, cf, st => match tryP st with
    | some (body, h, o) => !cf.hot && chkSs b cf body && (match hdL cf cs i h with
        | some su => chkSs s cf.heat su
        | none => false) && (match o with
      | none => cs2.isEmpty
      | some h2 => match hdL cf cs2 i2 h2 with
        | some su => chkSs s2 cf.heat su
        | none => false)
    | none => false
  | _, _, _ => false
def chkSs : List S → Cf → List Stmt → Bool
  | [], _, [] => true
  | s :: l, cf, x :: m => chkS s cf x && chkSs l cf m
  | _, _, _ => false
end
end Vd
/-! Vd19: the check is sound. -/
namespace Vd
open PySem PySem.Spec PyProof.Rows L2
section
variable {g : Gx} {ce : CE} {kk : Nat} {X : Cx} {W : WX} {cf : Cf}
theorem vis_of {sc : Scope} {x : Str} (h : visB sc x = true) : Vis sc x := by
  unfold visB at h
  simp only [Bool.or_eq_true, decide_eq_true_eq] at h
  rcases h with (h | h) | h
  · exact .inl h
  · exact .inr (.inl h)
  · exact .inr (.inr h)
theorem neS {x y : Str} (h : x ≠ y) : (x == y) = false := by
  rw [beq_eq_false_iff_ne]; exact h
theorem loc_of (F : Fit cf g ce kk X) {x : Str} (h : locB cf x = true) : Loc X.env.scope x ∧ (X.fn x = true ∨ X.env.scope.names.lookup x = some .local) := by
  unfold locB at h
  simp only [Bool.or_eq_true, Bool.and_eq_true, decide_eq_true_eq] at h
  rw [F.sc]
  rcases h with h | ⟨h1, h2⟩
  · exact ⟨.inl h, .inr h⟩
  · exact ⟨.inr h1, .inl (F.fn x h2 h1)⟩
theorem gl_of (F : Fit cf g ce kk X) {x : Str} (h : glB cf x = true) : Gl X x := by
  unfold glB at h
  have h' := of_decide_eq_true h
  show X.env.scope.names.lookup x = _
  rw [F.sc]; exact h'
theorem blt_of (F : Fit cf g ce kk X) {x : Str} (h : bltB cf x = true) : Gl X x ∧ X.mg x = none := by
  unfold bltB at h
  simp only [Bool.and_eq_true, decide_eq_true_eq] at h
  exact ⟨gl_of F h.1, F.bs x h.2⟩
theorem plainN_of {x : Str} (h : plainN x = true) : (x == ("__debug__" : Str)) = false ∧ (x == ("__classdict__" : Str)) = false ∧ x ≠ "__name__" := by
  unfold plainN at h
  simp only [Bool.and_eq_true, decide_eq_true_eq] at h
  exact ⟨neS h.1.1, neS h.1.2, h.2⟩
theorem bootB : ∀ b : B1, b ≠ .setlen ∧ b ≠ .lrg ∧ b ≠ .dget ∧ b ≠ .reprd → bootBuiltins (nmB b) = some (bval b) ∧ nmB b ≠ "__name__" ∧ (nmB b == ("__debug__" : Str)) = false := by
  intro b hb
  cases b <;> first | exact absurd rfl hb.1 | exact absurd rfl hb.2.1 | exact absurd rfl hb.2.2.1 | exact absurd rfl hb.2.2.2 | decide +kernel
theorem tyB_of (F : Fit cf g ce kk X) {t : Ty} {x : Str} {p : Pos} (h : tyB cf t (.Name x p) = true) : Gl X x ∧ X.mg x = none ∧ bootBuiltins x = some (.type (tyN t)) ∧ x ≠ "__name__" ∧ (x == ("__debug__" : Str)) = false := by
  unfold tyB at h
  simp only [Bool.and_eq_true, decide_eq_true_eq] at h
  obtain ⟨⟨rfl, h2⟩, h3⟩ := h
  obtain ⟨h4, h5⟩ := blt_of F h2
  refine ⟨h4, h5, ?_⟩
  cases t <;> first | (cases h3; done) | decide +kernel
theorem cnB_of (F : Fit cf g ce kk X) {c : Nat} {x : Str} {p : Pos} (h : cnB cf c (.Name x p) = true) : CN X g x c := by
  unfold cnB at h
  simp only [Bool.and_eq_true, decide_eq_true_eq] at h
  obtain ⟨⟨h1, h2⟩, h3⟩ := h
  obtain ⟨h4, h5⟩ := F.xs x c h3
  exact ⟨gl_of F h1, by simpa using h2, h4, h5⟩
theorem cnsB_of : ∀ {cs : List Nat} {es : List Expr}, cnsB cf cs es = true → ∃ l : List (Str × Pos), es = tyPs l ∧ l.length = cs.length ∧ ∀ (i : Nat) (y : Str × Pos) (c : Nat), l[i]? = some y → cs[i]? = some c → cnB cf c (.Name y.1 y.2) = true
  | [], [], _ => ⟨[], rfl, rfl, fun i y t h => by simp at h⟩
  | [], _ :: _, h => by cases h
  | _ :: _, [], h => by cases h
  | t :: ts, e :: es, h => by
    unfold cnsB at h
    rw [Bool.and_eq_true] at h
    obtain ⟨l, rfl, h2, h3⟩ := cnsB_of h.2
    have h1 := h.1
    cases e <;> first | (cases h1; done) | skip
    rename_i x p
    refine ⟨(x, p) :: l, rfl, by simp [h2], fun i y t' a b => ?_⟩
    cases i with
    | zero => cases a; cases b; exact h1
    | succ i => exact h3 i y t' (by simpa using a) (by simpa using b)
theorem tysB_of : ∀ {ts : List Ty} {es : List Expr}, tysB cf ts es = true → ∃ l : List (Str × Pos), es = tyPs l ∧ l.length = ts.length ∧ ∀ (i : Nat) (y : Str × Pos) (t : Ty), l[i]? = some y → ts[i]? = some t → tyB cf t (.Name y.1 y.2) = true
  | [], [], _ => ⟨[], rfl, rfl, fun i y t h => by simp at h⟩
  | [], _ :: _, h => by cases h
  | _ :: _, [], h => by cases h
  | t :: ts, e :: es, h => by
    unfold tysB at h
    rw [Bool.and_eq_true] at h
    obtain ⟨l, rfl, h2, h3⟩ := tysB_of h.2
    have h1 := h.1
    cases e <;> first | (cases h1; done) | skip
    rename_i x p
    refine ⟨(x, p) :: l, rfl, by simp [h2], fun i y t' a b => ?_⟩
    cases i with
    | zero => cases a; cases b; exact h1
    | succ i => exact h3 i y t' (by simpa using a) (by simpa using b)
theorem Good.blk (G : Good g kk X W) (scope : Scope) : InB X scope fun X' => Good g kk X' W0 := fun s H C cl fp => ⟨G.hK, G.nd, G.calm, fun u s' ⟨_, _, _, _, _, _, _, _, _, _, _, _, _, _, _, _, w⟩ => w.elim, G.rm, G.hu', G.gd⟩
theorem Fit.blk (F : Fit cf g ce kk X) {scope : Scope} (hk : scope.kind = .function) (hu : ∀ y ∈ scope.names, scope.names.lookup y.1 = some y.2) : InB X scope fun X' => Fit (cf.blk scope) g ce kk X' := fun s H C cl fp => {
  N := F.N
  sc := by
    show relS scope X.env.scope = relS scope cf.sc
    rw [F.sc]
  kind := hk
  fn := fun x hx _ => by
    have hx' : x ∈ cellsOf scope := hx
    unfold cellsOf at hx'
    obtain ⟨y, hy, rfl⟩ := List.mem_map.mp hx'
    obtain ⟨h1, h2⟩ := List.mem_filter.mp hy
    have h3 := of_decide_eq_true h2
    show (scope.names.lookup y.1 == some .cell) = true
    rw [hu y h1, h3]
    rfl
  fs := F.fs
  cs := F.cs
  bs := F.bs
  hot := F.hot
  xs := F.xs
  cls := F.cls
  rs := F.rs
  fl := F.fl
  ks := F.ks
  lam := fun z => absurd rfl z
  ts := fun _ _ m => by cases m
  fsl := F.fsl
  ksl := F.ksl
  rp := F.rp }
theorem Good.lam (G : Good g kk X W) (hrp : g.rp = false) {A : Around} {outer : List Env} {s : Shared} {H : Hp} {E : XK} {sc : Scope} {f' c' : Addr} (hk : 3 ≤ kk) (hr : Room (kk - 3) (A.deeper (LamX.lamEnv X sc s.heap.objs.size f' c'))) :
    Good g (kk - 2) (LamX.lamCx X A outer s H E sc f' c') (fun cls d _ H => E cls d H) :=
  ⟨G.hK, G.nd, fun _ => rfl, takes_of rfl rfl rfl rfl, fun _ => hr.mono (by omega), hr.units, fun z => by rw [hrp] at z; cases z⟩
theorem Fit.lamb (F : Fit cf g ce kk X) {A : Around} {outer : List Env} {s : Shared} {H : Hp} {E : XK} {sc : Scope} {f' c' : Addr} (hk : 3 ≤ kk) (L : LamX.LamS X.env.scope sc) : Fit (cf.lam sc) g ce (kk - 2) (LamX.lamCx X A outer s H E sc f' c') where
  N := F.N
  sc := rfl
  kind := L.kind
  fn := fun _ m => by cases m
  fs := fun x f n m => by
    obtain ⟨k, addr, fd, ps, h1, h2, h3⟩ := F.fsl x f n m
    exact ⟨k, addr, fd, ps, h1, by omega, h3⟩
  cs := F.cs
  bs := F.bs
  hot := fun _ => by omega
  xs := F.xs
  cls := F.cls
  rs := fun _ _ m => by cases m
  fl := F.fl
  ks := fun x f ps i m => by
    obtain ⟨k, addr, fd, h1, h2, h3⟩ := F.ksl x f ps i m
    exact ⟨k, addr, fd, h1, by omega, h3⟩
  lam := fun z => absurd rfl z
  ts := fun _ _ m => by cases m
  fsl := fun _ _ _ m => by cases m
  ksl := fun _ _ _ _ m => by cases m
  rp := F.rp
mutual
theorem tgB_ok (F : Fit cf g ce kk X) (G : Good g kk X W) : ∀ (t : TG) (x : Expr), tgB cf t x = true → SG g X x t
  | .nm i, x, h => by
    cases x <;> first | (cases h; done) | skip
    unfold tgB at h
    simp only [Bool.and_eq_true, decide_eq_true_eq] at h
    obtain ⟨h1, h2⟩ := loc_of F h.2
    exact sg_nm G.nd (by rw [F.N]; exact h.1) h1 h2
  | .tp l, x, h => by
    cases x <;> first | (cases h; done) | skip
    unfold tgB at h
    rw [Bool.and_eq_true, Bool.not_eq_true'] at h
    obtain ⟨h1, h2, h3⟩ := tgsB_ok F G l _ h.2
    exact sg_tp G.hK (G.calm (F.hot h.1)) h2 h3 h1
theorem tgsB_ok (F : Fit cf g ce kk X) (G : Good g kk X W) : ∀ (l : List TG) (es : List Expr), tgsB cf l es = true → SGs g X es l ∧ es.all noStar = true ∧ es.length = l.length
  | [], [], _ => ⟨sgs_nil, rfl, rfl⟩
  | [], _ :: _, h => by cases h
  | _ :: _, [], h => by cases h
  | t :: l, e :: m, h => by
    unfold tgsB at h
    simp only [Bool.and_eq_true] at h
    obtain ⟨h1, h2, h3⟩ := tgsB_ok F G l m h.2
    exact ⟨sgs_cons h.1.1 (tgB_ok F G t e h.1.2) h1, by rw [List.all_cons, h.1.1, h2]; rfl, by simp [h3]⟩
end
theorem keyB_ok {k : DK} {e : Option Expr} (h : keyB k e = true) : ∃ x, e = some x ∧ PE X x (tC (kV (kT k))) := by
  cases k with
  | inl i =>
    cases e with
    | none => cases h
    | some e =>
      cases e <;> first | (cases h; done) | skip
      rename_i c j p
      cases c <;> first | (cases h; done) | skip
      have := of_decide_eq_true (show decide (i = _) = true from h)
      subst this
      exact ⟨_, rfl, pe_int⟩
  | inr l =>
    cases e with
    | none => cases h
    | some e =>
      cases e <;> first | (cases h; done) | skip
      rename_i c j p
      cases c <;> first | (cases h; done) | skip
      have := of_decide_eq_true (show decide (sT l = _) = true from h)
      subst this
      exact ⟨_, rfl, pe_str⟩
theorem keysB_ok {pos : Pos} : ∀ {ks : List DK} {keys : List (Option Expr)} {vals : List Expr}, keysB ks keys = true → ks.length = vals.length → PPs X pos keys vals (prs X (ks.zip vals)) ∧ keys.all (·.isSome) = true ∧ keys.length = ks.length
  | [], [], [], _, _ => ⟨pps_nil, rfl, rfl⟩
  | [], _ :: _, _, h, _ => by cases h
  | _ :: _, [], _, h, _ => by cases h
  | _ :: _, _ :: _, [], _, h => by cases h
  | [], [], _ :: _, _, h => by cases h
  | k :: ks, e :: es, v :: vs, h, hl => by
    unfold keysB at h
    rw [Bool.and_eq_true] at h
    obtain ⟨h1, h2, h3⟩ := keysB_ok (pos := pos) h.2 (by simpa using hl)
    obtain ⟨x, rfl, hx⟩ := keyB_ok (X := X) h.1
    exact ⟨pps_cons hx (pe_W X v) h1, by rw [List.all_cons, h2]; rfl, by simp [h3]⟩
theorem iter_si {k : Ik} {tg iter : Expr} {es : List Expr} {ts : List T} (F : Fit cf g ce kk X) (G : Good g kk X W) (h : iterB cf k tg iter = some es) (hs : es.all noStar = true) (hl : es.length = ts.length) (ha : SA g X W es (evs ce ts)) (h1 : ∀ a ta, es = [a] → ts = [ta] → SE g X W a (ev ce ta)) :
    SI g X W tg iter (fun e => (evs ce ts e).bind (itsOf k)) ∧ ∀ x, foldedSetIterable iter X.env x = pure x := by
  unfold iterB at h
  split at h
  · cases h
  · rename_i e hne
    cases h
    match ts, hl with
    | [ta], _ => exact ⟨si_seq G (h1 _ _ rfl rfl), fun x => by
        cases iter <;> first | rfl | exact absurd rfl (hne _ _ _)⟩
  · split at h
    · rename_i hf
      obtain ⟨rfl, hb⟩ := hf
      cases h
      obtain ⟨b1, b2⟩ := blt_of F hb
      match ts, hl with
      | [ta], _ => exact ⟨si_rng1 G b1 b2 (by simpa using hs) ha, fun _ => rfl⟩
    · cases h
  · split at h
    · rename_i hf
      obtain ⟨rfl, hb⟩ := hf
      cases h
      obtain ⟨b1, b2⟩ := blt_of F hb
      simp only [List.all_cons, Bool.and_eq_true] at hs
      match ts, hl with
      | [ta, tb], _ => exact ⟨si_rng2 G b1 b2 hs.1 hs.2.1 ha, fun _ => rfl⟩
    · cases h
  · split at h
    · rename_i hf
      obtain ⟨rfl, hb⟩ := hf
      cases h
      obtain ⟨b1, b2⟩ := blt_of F hb
      simp only [List.all_cons, List.all_nil, Bool.and_true] at hs
      match ts, hl with
      | [ta, tb, tc], _ => exact ⟨si_rng3 G b1 b2 (by simpa using hs) ha, fun _ => rfl⟩
    · cases h
  · split at h
    · rename_i hf
      obtain ⟨rfl, hb⟩ := hf
      cases h
      obtain ⟨b1, b2⟩ := blt_of F hb
      match ts, hl with
      | [ta], _ => exact ⟨si_rev G b1 b2 (by simpa using hs) (h1 _ _ rfl rfl), fun _ => rfl⟩
    · cases h
  · split at h
    · rename_i hf
      obtain ⟨rfl, hb, rfl, hb2⟩ := hf
      cases h
      obtain ⟨b1, b2⟩ := blt_of F hb
      obtain ⟨c1, c2⟩ := blt_of F hb2
      match ts, hl with
      | [ta], _ => exact ⟨si_rrng G b1 b2 c1 c2 (by simpa using hs) (h1 _ _ rfl rfl), fun _ => rfl⟩
    · cases h
  · split at h
    · rename_i hf
      obtain ⟨rfl, hb⟩ := hf
      cases h
      obtain ⟨b1, b2⟩ := blt_of F hb
      match ts, hl with
      | [ta], _ => exact ⟨si_enum G b1 b2 (by simpa using hs) ha, fun _ => rfl⟩
    · cases h
  · split at h
    · rename_i hf
      obtain ⟨rfl, hb⟩ := hf
      cases h
      obtain ⟨b1, b2⟩ := blt_of F hb
      simp only [List.all_cons, Bool.and_eq_true] at hs
      match ts, hl with
      | [ta, tb], _ => exact ⟨si_zip G b1 b2 hs.1 hs.2.1 ha, fun _ => rfl⟩
    · cases h
  · cases h
theorem truth_of {a : Expr} (h : notB a = true) (env : Env) (whole : Sem Value) : isTrue a env whole = (do let v ← whole; standAt a.pos; holding [v] (truthy v)) := by
  cases a with
  | UnaryOp op x p => cases op <;> first | (cases h; done) | rfl
  | _ => first | (cases h; done) | rfl
theorem unB_ok {tgs : List Expr} {a : Expr} {k : Nat} {tp : Pos} {env : Env} (h : unB tgs a = true) : swappedStores [.Tuple tgs k tp] a env = pure none := by
  cases a <;> first | rfl | skip
  rename_i vs k2 p2
  unfold unB at h
  dsimp only at h
  unfold swappedStores
  dsimp only
  rw [Bool.or_eq_true, Bool.or_eq_true] at h
  rcases h with (h | h) | h
  · split
    · rfl
    · split
      · rfl
      · split
        · rfl
        · simp only [h, if_true]
          first | done | rfl
  · rw [if_pos (by rw [h]; rfl)]
  · rw [if_pos (by rw [h]; simp)]
theorem celT_ok {cf : Cf} {tgs : List Expr} {a : Expr} {k : Nat} {tp : Pos} {env : Env} (hs : env.scope = cf.sc) (h : celT cf tgs = true) : swappedStores [.Tuple tgs k tp] a env = pure none := by
  cases a <;> first | rfl | skip
  rename_i vs k2 p2
  unfold swappedStores
  dsimp only
  split
  · rfl
  · split
    · rfl
    · rw [if_pos]
      rw [Bool.or_eq_true]
      refine .inl ?_
      rw [bne_iff_ne]
      intro hl
      rw [List.filterMap_length_eq_length] at hl
      unfold celT at h
      obtain ⟨x, hx, hc⟩ := List.any_eq_true.mp h
      have h1 := hl x hx
      cases x <;> first | (cases hc; done) | skip
      rename_i id p
      have hc := of_decide_eq_true hc
      have kx : env.kindOf id = some .cell := by
        show env.scope.names.lookup id = some .cell
        rw [hs]; exact hc
      simp [kx] at h1
theorem swB3_ok {x y z : Str} {px py pz pt pt2 : Pos} {kt k2 : Nat} {a b c : Expr} {env : Env} (hk : env.scope.kind = .function) (hx : env.scope.names.lookup x = some .local) (hy : env.scope.names.lookup y = some .local) (hz : env.scope.names.lookup z = some .local) (hl : (px.line == py.line) = true) (hl2 : (px.line == pz.line) = true) (hxy : x ≠ y) (hxz : x ≠ z) (hyz : y ≠ z)
    (hf : [a, b, c].all (foldedForSure 8) = false) (hc : [a, b, c].all (constantsAlone 8) = false) (ha : noStar a = true) (hb : noStar b = true) (hc' : noStar c = true) : swappedStores [.Tuple [.Name x px, .Name y py, .Name z pz] kt pt] (.Tuple [a, b, c] k2 pt2) env = pure (some [x, y, z]) := by
  have hbk : env.blockKind = .function := by unfold Env.blockKind; rw [hk]; rfl
  have kx : env.kindOf x = some .local := hx
  have ky : env.kindOf y = some .local := hy
  have kz : env.kindOf z = some .local := hz
  have hline : py.line = px.line := (eq_of_beq hl).symm
  have hline2 : pz.line = px.line := (eq_of_beq hl2).symm
  unfold swappedStores
  simp only [List.length_cons, List.length_nil, hbk, hf, hc, List.any_cons, List.any_nil]
  simp [Expr.pos, kx, ky, kz, hline, hline2, List.eraseDups_cons, hxy, Ne.symm hxy, hxz, Ne.symm hxz, hyz, Ne.symm hyz]
  intro h
  exfalso
  rcases h with h | h | h
  · cases a <;> first | (cases ha; done) | (cases h; done)
  · cases b <;> first | (cases hb; done) | (cases h; done)
  · cases c <;> first | (cases hc'; done) | (cases h; done)
theorem subB_ok {a b v : Expr} {p : Pos} {env : Env} : swappedStores [.Subscript a b p] v env = pure none := by
  cases v <;> rfl
theorem swB_ok {x y : Str} {px py pt pt2 : Pos} {kt k2 : Nat} {a b : Expr} {env : Env} (hk : env.scope.kind = .function) (hx : env.scope.names.lookup x = some .local) (hy : env.scope.names.lookup y = some .local) (hl : (px.line == py.line) = true) (hne : x ≠ y)
    (hf : [a, b].all (foldedForSure 8) = false) (hc : [a, b].all (constantsAlone 8) = false) (ha : noStar a = true) (hb : noStar b = true) : swappedStores [.Tuple [.Name x px, .Name y py] kt pt] (.Tuple [a, b] k2 pt2) env = pure (some [x, y]) := by
  have hbk : env.blockKind = .function := by unfold Env.blockKind; rw [hk]; rfl
  have kx : env.kindOf x = some .local := hx
  have ky : env.kindOf y = some .local := hy
  have hline : py.line = px.line := (eq_of_beq hl).symm
  unfold swappedStores
  simp only [List.length_cons, List.length_nil, hbk, hf, hc, List.any_cons, List.any_nil]
  have hne' : (y == x) = false := neS (Ne.symm hne)
  simp [Expr.pos, kx, ky, hline, List.eraseDups_cons, hne, hne', Ne.symm hne]
  intro h
  exfalso
  rcases h with h | h
  · cases a <;> first | (cases ha; done) | (cases h; done)
  · cases b <;> first | (cases hb; done) | (cases h; done)
end
end Vd
namespace Vd
open PySem PySem.Spec PyProof.Rows L2
section
variable {g : Gx} {ce : CE}
/-- behind the first .. of a row of and, or -/
theorem rest_se {kk : Nat} {X : Cx} {W : WX} {op : BoolOp} {eb : Expr} {rest : List Expr} {p : Pos} {m : VE → R Val} (h : SE g X W (match rest with | [] => eb | _ => .BoolOp op (eb :: rest) p) m) : SE g X W (.BoolOp op (eb :: rest) p) m := by
  cases rest with
  | nil => exact fun e σ Hb H Q I h' => tW_of (pe_one (pe_W X eb)) (h e σ Hb H Q I h')
  | cons a l => exact h
theorem noS_all : ∀ {l : List T} {cf : Cf} {es : List Expr}, chkA l cf es = true → es.all noStar = true ∧ es.length = l.length
  | [], _, [], _ => ⟨rfl, rfl⟩
  | [], _, _ :: _, h => by unfold chkA at h; cases h
  | _ :: _, _, [], h => by unfold chkA at h; cases h
  | t :: l, cf, e :: m, h => by
    unfold chkA at h
    simp only [Bool.and_eq_true] at h
    obtain ⟨h1, h2⟩ := noS_all h.2
    exact ⟨by rw [List.all_cons, h.1.1, h1]; rfl, by simp [h2]⟩
theorem rest_wh {op : BoolOp} {es : List Expr} {p : Pos} {env : Env} (wh wh' : Sem Value) {M : Model} {A : Around} {Q : Bool → Shared → Prop} {E : Value → Shared → Prop} {s : Shared} : wpAny M A (isTrue (.BoolOp op es p) env wh) Q E s ↔ wpAny M A (isTrue (.BoolOp op es p) env wh') Q E s := Iff.rfl
theorem lc_parts {kk : Nat} {X : Cx} {W : WX} {cf : Cf} {scope : Scope} {own : List Nat} {G' : TG} {tg : Expr} (h1 : blkC cf.N cf.sc scope (own.map fun i => (cf.N.getD i "", i)) = true) (h2 : ((slots G').all fun j => decide (j ∈ own)) = true) (h3 : tgB (cf.blk scope) G' tg = true) (F : Fit cf g ce kk X) (G : Good g kk X W) :
    BlkOk X.N X.env.scope scope (own.map fun i => (cf.N.getD i "", i)) ∧ (InB X scope fun X' => SG g X' tg G') ∧ (∀ j ∈ slots G', j ∈ (own.map fun i => (cf.N.getD i "", i)).map (·.2)) ∧ (own.map fun i => (cf.N.getD i "", i)).map (·.2) = own ∧ (InB X scope fun X' => Fit (cf.blk scope) g ce kk X') ∧ InB X scope fun X' => Good g kk X' W0 := by
  have q1 := blkOk_by h1
  have q6 := F.blk q1.kind q1.uniq
  have q7 := G.blk scope
  have q4 : (own.map fun i => (cf.N.getD i "", i)).map (·.2) = own := by
    rw [List.map_map]
    exact List.map_id' own
  refine ⟨by rw [F.N, F.sc]; exact q1, fun s H C cl fp => tgB_ok (q6 s H C cl fp) (q7 s H C cl fp) G' tg h3, fun j hj => ?_, q4, q6, q7⟩
  rw [q4]
  exact of_decide_eq_true (List.all_eq_true.mp h2 j hj)
theorem dget_of {b : B1} {l : List T} {m : Bool} {cf : Cf} {ea : Expr} {nm : Str} {ap p : Pos} {es : List Expr} {ks : List Keyword} (h : chk (.bi b l) m cf (.Call (.Attribute ea nm ap) es ks p) = true) :
    ∃ ks' l' tk td keys vals dp ek ed, b = .dget ∧ l = [.dct ks' l', tk, td] ∧ ea = .Dict keys vals dp ∧ es = [ek, ed] ∧ ks = [] ∧
      (decide (nm = "get") && (ap.endLine == p.line) && noStar ek && noStar ed && chk (.dct ks' l') false cf (.Dict keys vals dp) && chk tk false cf ek && chk td false cf ed) = true := by
  unfold chk at h
  split at h <;> (try contradiction)
  all_goals (try (exfalso; simp_all; done))
  rename_i a1 a2
  cases a1
  cases a2
  exact ⟨_, _, _, _, _, _, _, _, _, rfl, rfl, rfl, rfl, rfl, h⟩
mutual
theorem chk_ok : ∀ (t : T) (m : Bool) (cf : Cf) (x : Expr) (kk : Nat) (X : Cx) (W : WX), chk t m cf x = true → Fit cf g ce kk X → Good g kk X W → (m = false → SE g X W x (ev ce t)) ∧ (m = true → ST g X W x (evT ce t))
  | .var i, m, cf, x, kk, X, W, h, F, G => by
    have nb : notB x = true := by
      cases x <;> first | rfl | (unfold chk at h; cases h; done)
    have se : SE g X W x (ev ce (.var i)) := by
      cases x <;> first | (unfold chk at h; cases h; done) | skip
      unfold chk at h
      simp only [Bool.and_eq_true, decide_eq_true_eq] at h
      obtain ⟨p1, p2, _⟩ := plainN_of h.2
      exact se_var (by rw [F.N]; exact h.1.1) (by rw [F.sc]; exact vis_of h.1.2) p1 p2
    exact ⟨fun _ => se, fun _ => st_val G se (truth_of nb _) (fun e => by rw [evT] <;> intros <;> simp_all)⟩
  | .int i, m, cf, x, kk, X, W, h, F, G => by
    have nb : notB x = true := by
      cases x <;> first | rfl | (unfold chk at h; cases h; done)
    have se : SE g X W x (ev ce (.int i)) := by
      cases x <;> first | (unfold chk at h; cases h; done) | skip
      rename_i c j p
      cases c <;> first | (unfold chk at h; cases h; done) | skip
      unfold chk at h
      have := of_decide_eq_true h
      subst this
      exact se_const (d := .int i) pe_int (fun _ => rfl) (fun e => by rw [ev])
    exact ⟨fun _ => se, fun _ => st_val G se (truth_of nb _) (fun e => by rw [evT] <;> intros <;> simp_all)⟩
  | .bl b, m, cf, x, kk, X, W, h, F, G => by
    have nb : notB x = true := by
      cases x <;> first | rfl | (unfold chk at h; cases h; done)
    have se : SE g X W x (ev ce (.bl b)) := by
      cases x <;> first | (unfold chk at h; cases h; done) | skip
      rename_i c j p
      cases c <;> first | (unfold chk at h; cases h; done) | skip
      unfold chk at h
      have := of_decide_eq_true h
      subst this
      exact se_const (d := .bl b) pe_bl (fun _ => rfl) (fun e => by rw [ev])
    exact ⟨fun _ => se, fun _ => st_val G se (truth_of nb _) (fun e => by rw [evT] <;> intros <;> simp_all)⟩
  | .non, m, cf, x, kk, X, W, h, F, G => by
    have nb : notB x = true := by
      cases x <;> first | rfl | (unfold chk at h; cases h; done)
    have se : SE g X W x (ev ce .non) := by
      cases x <;> first | (unfold chk at h; cases h; done) | skip
      rename_i c j p
      cases c <;> first | (unfold chk at h; cases h; done) | skip
      exact se_const (d := .non) pe_non (fun _ => rfl) (fun e => by rw [ev])
    exact ⟨fun _ => se, fun _ => st_val G se (truth_of nb _) (fun e => by rw [evT] <;> intros <;> simp_all)⟩
  | .str l, m, cf, x, kk, X, W, h, F, G => by
    have nb : notB x = true := by
      cases x <;> first | rfl | (unfold chk at h; cases h; done)
    have se : SE g X W x (ev ce (.str l)) := by
      cases x <;> first | (unfold chk at h; cases h; done) | skip
      rename_i c j p
      cases c <;> first | (unfold chk at h; cases h; done) | skip
      unfold chk at h
      simp only [Bool.and_eq_true, decide_eq_true_eq] at h
      obtain ⟨h1, h2⟩ := h
      subst h1
      exact se_const (d := .str l) pe_str (fun _ => ⟨rfl, by rw [← line_eq]; exact h2⟩) (fun e => by rw [ev])
    exact ⟨fun _ => se, fun _ => st_val G se (truth_of nb _) (fun e => by rw [evT] <;> intros <;> simp_all)⟩
  | .con k, m, cf, x, kk, X, W, h, F, G => by
    have nb : notB x = true := by
      cases x <;> first | rfl | (unfold chk at h; cases h; done)
    have se : SE g X W x (ev ce (.con k)) := by
      cases x <;> first | (unfold chk at h; cases h; done) | skip
      unfold chk at h
      simp only [Bool.and_eq_true, decide_eq_true_eq] at h
      obtain ⟨u, v, h1, h2, h3⟩ := F.cs _ _ h.1.2
      exact se_const (pe_glob (gl_of F h.1.1) h1 h2 (plainN_of h.2).1) h3 (fun e => by rw [ev])
    exact ⟨fun _ => se, fun _ => st_val G se (truth_of nb _) (fun e => by rw [evT] <;> intros <;> simp_all)⟩
  | .bin o a b, m, cf, x, kk, X, W, h, F, G => by
    have nb : notB x = true := by
      cases x <;> first | rfl | (unfold chk at h; cases h; done)
    have se : SE g X W x (ev ce (.bin o a b)) := by
      cases x <;> first | (unfold chk at h; cases h; done) | skip
      unfold chk at h
      simp only [Bool.and_eq_true] at h
      obtain ⟨⟨h1, h2⟩, h3⟩ := h
      rw [o2B_eq h1]
      exact se_bin G ((chk_ok a false cf _ kk X W h2 F G).1 rfl) ((chk_ok b false cf _ kk X W h3 F G).1 rfl)
    exact ⟨fun _ => se, fun _ => st_val G se (truth_of nb _) (fun e => by rw [evT] <;> intros <;> simp_all)⟩
  | .cmp o a b, m, cf, x, kk, X, W, h, F, G => by
    cases x <;> first | (unfold chk at h; cases h; done) | skip
    rename_i ea ops cs p
    match ops, cs, h with
    | [op], [eb], h =>
      unfold chk at h
      simp only [Bool.and_eq_true, Bool.not_eq_true'] at h
      obtain ⟨⟨⟨h1, h2⟩, h3⟩, h4⟩ := h
      rw [cqB_eq h1] at h2 ⊢
      exact ⟨fun _ => se_cmp G h2 ((chk_ok a false cf _ kk X W h3 F G).1 rfl) ((chk_ok b false cf _ kk X W h4 F G).1 rfl), fun _ => st_cmp G h2 ((chk_ok a false cf _ kk X W h3 F G).1 rfl) ((chk_ok b false cf _ kk X W h4 F G).1 rfl)⟩
    | [], _, h => unfold chk at h; cases h
    | [_], [], h => unfold chk at h; cases h
    | [_], _ :: _ :: _, h => unfold chk at h; cases h
    | _ :: _ :: _, _, h => unfold chk at h; cases h
  | .chn o p' a b c, m, cf, x, kk, X, W, h, F, G => by
    cases x <;> first | (unfold chk at h; cases h; done) | skip
    rename_i ea ops cs p
    match ops, cs, h with
    | [op, op'], [eb, ec], h =>
      unfold chk at h
      simp only [Bool.and_eq_true, Bool.not_eq_true'] at h
      obtain ⟨⟨⟨⟨⟨h1, h2⟩, h3⟩, h4⟩, h5⟩, h6⟩ := h
      rw [cqB_eq h1, cqB_eq h2] at h3 ⊢
      exact ⟨fun _ => se_chn G h3 ((chk_ok a false cf _ kk X W h4 F G).1 rfl) ((chk_ok b false cf _ kk X W h5 F G).1 rfl) ((chk_ok c false cf _ kk X W h6 F G).1 rfl), fun _ => st_chn G h3 ((chk_ok a false cf _ kk X W h4 F G).1 rfl) ((chk_ok b false cf _ kk X W h5 F G).1 rfl) ((chk_ok c false cf _ kk X W h6 F G).1 rfl)⟩
    | [], _, h => unfold chk at h; cases h
    | [_], _, h => unfold chk at h; cases h
    | [_, _], [], h => unfold chk at h; cases h
    | [_, _], [_], h => unfold chk at h; cases h
    | [_, _], _ :: _ :: _ :: _, h => unfold chk at h; cases h
    | _ :: _ :: _ :: _, _, h => unfold chk at h; cases h
  | .and a b, m, cf, x, kk, X, W, h, F, G => by
    cases x <;> first | (unfold chk at h; cases h; done) | skip
    rename_i op es p
    match op, es, h with
    | .And, ea :: eb :: rest, h =>
      unfold chk at h
      simp only [Bool.and_eq_true] at h
      have ha := chk_ok a m cf _ kk X W h.1 F G
      have hb := chk_ok b m cf _ kk X W h.2 F G
      refine ⟨fun hm => se_and (ha.1 hm) (rest_se (kk := kk) (hb.1 hm)), fun hm => ?_⟩
      have hb' := hb.2 hm
      refine fun e σ Hb H Q I h' pins s J => st_and (ha.2 hm) ?_ _ e σ Hb H Q I h' pins s J
      cases rest with
      | nil => exact st_last hb'
      | cons r rest => exact fun wh e σ Hb H Q I h' pins s J => (rest_wh wh _).mpr (hb' e σ Hb H Q I h' pins s J)
    | .Or, _, h => unfold chk at h; cases h
    | .And, [], h => unfold chk at h; cases h
    | .And, [_], h => unfold chk at h; cases h
  | .or a b, m, cf, x, kk, X, W, h, F, G => by
    cases x <;> first | (unfold chk at h; cases h; done) | skip
    rename_i op es p
    match op, es, h with
    | .Or, ea :: eb :: rest, h =>
      unfold chk at h
      simp only [Bool.and_eq_true] at h
      have ha := chk_ok a m cf _ kk X W h.1 F G
      have hb := chk_ok b m cf _ kk X W h.2 F G
      refine ⟨fun hm => se_or (ha.1 hm) (rest_se (kk := kk) (hb.1 hm)), fun hm => ?_⟩
      have hb' := hb.2 hm
      refine fun e σ Hb H Q I h' pins s J => st_or (ha.2 hm) ?_ _ e σ Hb H Q I h' pins s J
      cases rest with
      | nil => exact st_last hb'
      | cons r rest => exact fun wh e σ Hb H Q I h' pins s J => (rest_wh wh _).mpr (hb' e σ Hb H Q I h' pins s J)
    | .And, _, h => unfold chk at h; cases h
    | .Or, [], h => unfold chk at h; cases h
    | .Or, [_], h => unfold chk at h; cases h
  | .not a, m, cf, x, kk, X, W, h, F, G => by
    cases x <;> first | (unfold chk at h; cases h; done) | skip
    rename_i op ea p
    cases op <;> first | (unfold chk at h; cases h; done) | skip
    unfold chk at h
    have ha := chk_ok a m cf _ kk X W h F G
    exact ⟨fun hm => se_not (ha.1 hm), fun hm => st_not (ha.2 hm)⟩
  | .neg a, m, cf, x, kk, X, W, h, F, G => by
    have nb : notB x = true := by
      cases x <;> first | rfl | (unfold chk at h; cases h; done) | skip
      rename_i op a p
      cases op <;> first | rfl | (unfold chk at h; cases h)
    have se : SE g X W x (ev ce (.neg a)) := by
      cases x <;> first | (unfold chk at h; cases h; done) | skip
      rename_i op ea p
      cases op <;> first | (unfold chk at h; cases h; done) | skip
      unfold chk at h
      exact se_neg ((chk_ok a false cf _ kk X W h F G).1 rfl)
    exact ⟨fun _ => se, fun _ => st_val G se (truth_of nb _) (fun e => by rw [evT] <;> intros <;> simp_all)⟩
  | .ite c a b, m, cf, x, kk, X, W, h, F, G => by
    cases x <;> first | (unfold chk at h; cases h; done) | skip
    unfold chk at h
    simp only [Bool.and_eq_true, Bool.not_eq_true'] at h
    refine ⟨fun _ => se_ite ((chk_ok c true cf _ kk X W h.1.1.2 F G).2 rfl) ((chk_ok a false cf _ kk X W h.1.2 F G).1 rfl) ((chk_ok b false cf _ kk X W h.2 F G).1 rfl), fun hm => ?_⟩
    rw [hm] at h
    cases h.1.1.1
  | .tup l, m, cf, x, kk, X, W, h, F, G => by
    have nb : notB x = true := by
      cases x <;> first | rfl | (unfold chk at h; cases h; done)
    have se : SE g X W x (ev ce (.tup l)) := by
      cases x <;> first | (unfold chk at h; cases h; done) | skip
      unfold chk at h
      exact se_tup (chkA_ok l cf _ kk X W h F G)
    exact ⟨fun _ => se, fun _ => st_val G se (truth_of nb _) (fun e => by rw [evT] <;> intros <;> simp_all)⟩
  | .lst l, m, cf, x, kk, X, W, h, F, G => by
    have nb : notB x = true := by
      cases x <;> first | rfl | (unfold chk at h; cases h; done)
    have se : SE g X W x (ev ce (.lst l)) := by
      cases x <;> first | (unfold chk at h; cases h; done) | skip
      unfold chk at h
      exact se_lst (chkA_ok l cf _ kk X W h F G)
    exact ⟨fun _ => se, fun _ => st_val G se (truth_of nb _) (fun e => by rw [evT] <;> intros <;> simp_all)⟩
  | .dct ks l, m, cf, x, kk, X, W, h, F, G => by
    have nb : notB x = true := by
      cases x <;> first | rfl | (unfold chk at h; cases h; done)
    have se : SE g X W x (ev ce (.dct ks l)) := by
      cases x <;> first | (unfold chk at h; cases h; done) | skip
      rename_i keys vals p
      unfold chk at h
      simp only [Bool.and_eq_true, decide_eq_true_eq] at h
      obtain ⟨⟨⟨h1, h2⟩, h3⟩, h4⟩ := h
      obtain ⟨k1, k2, k3⟩ := keysB_ok (X := X) (pos := p) h1 h2
      have hv : (ks.zip vals).map (·.2) = vals := by rw [List.map_snd_zip]; omega
      have hks : (ks.zip vals).map (·.1) = ks := by rw [List.map_fst_zip]; omega
      cases ks with
      | nil =>
        have : vals = [] := List.length_eq_zero_iff.mp (by simpa using h2.symm)
        subst this
        have : keys = [] := List.length_eq_zero_iff.mp (by simpa using k3)
        subst this
        have : l = [] := by
          cases l with
          | nil => rfl
          | cons t l => unfold chkA at h4; cases h4
        subst this
        exact se_dct0
      | cons k0 ks0 =>
        have hz : (k0 :: ks0).zip vals ≠ [] := fun z => by
          have : ((k0 :: ks0).zip vals).length = 0 := by rw [z]; rfl
          rw [List.length_zip, h2, Nat.min_self] at this
          rw [this] at h2; cases h2
        have := se_dct (g := g) (W := W) (ce := ce) (ts := l) (pos := p) (keys := keys) (l := (k0 :: ks0).zip vals) (by rw [hv]; exact k1) k2 (by rw [k3, List.length_zip, h2, Nat.min_self]) hz (by rw [List.length_zip, h2, Nat.min_self]; exact h3)
          (chkD_ok l cf vals (k0 :: ks0) kk X W h4 h2 F G)
        rw [hv, hks] at this
        exact this
    exact ⟨fun _ => se, fun _ => st_val G se (truth_of nb _) (fun e => by rw [evT] <;> intros <;> simp_all)⟩
  | .ix a b, m, cf, x, kk, X, W, h, F, G => by
    have nb : notB x = true := by
      cases x <;> first | rfl | (unfold chk at h; cases h; done)
    have se : SE g X W x (ev ce (.ix a b)) := by
      cases x <;> first | (unfold chk at h; cases h; done) | skip
      unfold chk at h
      simp only [Bool.and_eq_true] at h
      exact se_ix G h.1.1 ((chk_ok a false cf _ kk X W h.1.2 F G).1 rfl) ((chk_ok b false cf _ kk X W h.2 F G).1 rfl)
    exact ⟨fun _ => se, fun _ => st_val G se (truth_of nb _) (fun e => by rw [evT] <;> intros <;> simp_all)⟩
  | .sl a lo hi, m, cf, x, kk, X, W, h, F, G => by
    have nb : notB x = true := by
      cases x <;> first | rfl | (unfold chk at h; cases h; done)
    have se : SE g X W x (ev ce (.sl a lo hi)) := by
      cases x <;> first | (unfold chk at h; cases h; done) | skip
      rename_i ea es p
      cases es <;> first | (unfold chk at h; cases h; done) | skip
      rename_i elo ehi est p2
      cases est with
      | some z => unfold chk at h; cases h
      | none =>
        unfold chk at h
        simp only [Bool.and_eq_true] at h
        exact se_sl G ((chk_ok a false cf _ kk X W h.1.1 F G).1 rfl) (chkO_ok lo cf _ kk X W h.1.2 F G) (chkO_ok hi cf _ kk X W h.2 F G)
    exact ⟨fun _ => se, fun _ => st_val G se (truth_of nb _) (fun e => by rw [evT] <;> intros <;> simp_all)⟩
  | .call f l, m, cf, x, kk, X, W, h, F, G => by
    have nb : notB x = true := by
      cases x <;> first | rfl | (unfold chk at h; cases h; done)
    have se : SE g X W x (ev ce (.call f l)) := by
      cases x <;> first | (unfold chk at h; cases h; done) | skip
      rename_i fn es ks p
      cases fn <;> first | (unfold chk at h; cases h; done) | skip
      cases ks with
      | cons kw kws =>
        unfold chk at h
        simp only [Bool.and_eq_true, decide_eq_true_eq, List.any_eq_true] at h
        obtain ⟨⟨⟨h1, h3⟩, h4⟩, ⟨y, f', ps, i⟩, hm, ⟨⟨⟨rfl, rfl⟩, h5⟩, h6⟩, h7⟩ := h
        dsimp only at h5 h6 h7
        subst h5
        obtain ⟨k, addr, fd, f1, f2, f3, f4, f5⟩ := F.ks _ _ _ _ hm
        have ha := chkL_ok l cf (es ++ (kw :: kws).map (·.value)) kk X W h4 F G
        exact se_callK G f1 f2 (gl_of F h1) f3 f4 f5 (plainN_of h3).1 h6 h7 ha
      | nil =>
        unfold chk at h
        simp only [Bool.and_eq_true, decide_eq_true_eq] at h
        obtain ⟨⟨⟨h1, h2⟩, h3⟩, h4⟩ := h
        obtain ⟨k, addr, fd, ps, f1, f2, f3, f4, f5, f6⟩ := F.fs _ _ _ h2
        obtain ⟨n1, n2⟩ := noS_all h4
        have ha := chkA_ok l cf es kk X W h4 F G
        cases es with
        | nil =>
          have hl : l = [] := List.length_eq_zero_iff.mp (by simpa using n2.symm)
          subst hl
          have hp : ps = [] := List.length_eq_zero_iff.mp (by simpa using f6)
          subst hp
          exact se_call0 G f1 f2 (gl_of F h1) f3 f4 f5 (plainN_of h3).1
        | cons a es => exact se_call G f1 f2 (gl_of F h1) f3 f4 f5 (plainN_of h3).1 f6.symm n1 ha
    exact ⟨fun _ => se, fun _ => st_val G se (truth_of nb _) (fun e => by rw [evT] <;> intros <;> simp_all)⟩
  | .rvl a, m, cf, x, kk, X, W, h, F, G => by
    unfold chk at h
    cases q : rvB x with
    | none => rw [q] at h; cases h
    | some ea =>
      rw [q] at h
      dsimp only at h
      obtain ⟨k, p1, p2, p3, pos, rfl⟩ := rvB_eq q
      have se := se_rvl (p1 := p1) (p2 := p2) (p3 := p3) (pos := pos) (k := k) G ((chk_ok a false cf ea kk X W h F G).1 rfl)
      exact ⟨fun _ => se, fun _ => st_val G se (truth_of rfl _) (fun e => by rw [evT] <;> intros <;> simp_all)⟩
  | .bi b l, m, cf, x, kk, X, W, h, F, G => by
    have nb : notB x = true := by
      cases x <;> first | rfl | (unfold chk at h; cases h; done)
    have se : SE g X W x (ev ce (.bi b l)) := by
      cases x <;> first | (unfold chk at h; cases h; done) | skip
      rename_i fn es ks p
      cases fn <;> first | (unfold chk at h; cases h; done) | skip
      case Name y yp =>
       cases ks with
       | cons a b => unfold chk at h; cases h
       | nil =>
        unfold chk at h
        rw [Bool.and_eq_true, Bool.not_eq_true'] at h
        obtain ⟨hot, h⟩ := h
        have hk := F.hot hot
        have gen : b ≠ .setlen ∧ b ≠ .lrg ∧ b ≠ .dget ∧ b ≠ .reprd → (decide (y = nmB b) && bltB cf y && !es.isEmpty && chkA l cf es) = true → SE g X W (.Call (.Name y yp) es [] p) (ev ce (.bi b l)) := by
          intro hb h
          simp only [Bool.and_eq_true, decide_eq_true_eq, Bool.not_eq_true'] at h
          obtain ⟨⟨⟨rfl, h2⟩, h3⟩, h4⟩ := h
          obtain ⟨b1, b2⟩ := blt_of F h2
          obtain ⟨c1, c2, c3⟩ := bootB b hb
          obtain ⟨n1, n2⟩ := noS_all h4
          have ha := chkA_ok l cf es kk X W h4 F G
          cases es with
          | nil => cases h3
          | cons a es => exact se_bi G hk hb b1 b2 c1 c2 c3 n1 ha
        cases b <;> first | (exact gen (by decide) h) | skip
        case lrg =>
          simp only [Bool.and_eq_true, decide_eq_true_eq] at h
          obtain ⟨⟨rfl, h2⟩, h3⟩ := h
          obtain ⟨b1, b2⟩ := blt_of F h2
          split at h3
          · rename_i z zp as zp2
            simp only [Bool.and_eq_true, decide_eq_true_eq] at h3
            obtain ⟨⟨⟨rfl, h4⟩, h5⟩, h6⟩ := h3
            obtain ⟨b3, b4⟩ := blt_of F h4
            obtain ⟨n1, n2⟩ := noS_all h6
            have h7 := chkA_ok l cf as kk X W h6 F G
            match as, n1, n2, h6, h7 with
            | [a1, a2, a3], n1, _, h6, h7 => exact se_lrg G hk b1 b2 b3 b4 n1 h7
            | [], _, n2, _, _ => rw [h5] at n2; cases n2
            | [_], _, n2, _, _ => rw [h5] at n2; cases n2
            | [_, _], _, n2, _, _ => rw [h5] at n2; cases n2
            | _ :: _ :: _ :: _ :: _, _, n2, _, _ => rw [h5] at n2; simp at n2
          · cases h3
        case dget => cases h
        case reprd =>
          simp only [Bool.and_eq_true, decide_eq_true_eq] at h
          obtain ⟨⟨⟨⟨h0, rfl⟩, h2⟩, h5⟩, h4⟩ := h
          obtain ⟨b1, b2⟩ := blt_of F h2
          obtain ⟨n1, n2⟩ := noS_all h4
          have ha := chkA_ok l cf es kk X W h4 F G
          match es, n1, n2, ha with
          | [a], n1, _, ha => exact se_reprd G (G.gd (F.rp h0)) b1 b2 n1 ha
          | [], _, n2, _ => rw [h5] at n2; cases n2
          | _ :: _ :: _, _, n2, _ => rw [h5] at n2; simp at n2
        -- len(set(..))
        simp only [Bool.and_eq_true, decide_eq_true_eq] at h
        obtain ⟨⟨rfl, h2⟩, h3⟩ := h
        obtain ⟨b1, b2⟩ := blt_of F h2
        split at h3
        · rename_i z zp as zp2
          simp only [Bool.and_eq_true, decide_eq_true_eq] at h3
          obtain ⟨⟨⟨rfl, h4⟩, h5⟩, h6⟩ := h3
          obtain ⟨b3, b4⟩ := blt_of F h4
          obtain ⟨n1, n2⟩ := noS_all h6
          have h7 := chkA1_ok l cf as kk X W h6 F G
          match l, as, h5, h6, n1, n2, h7 with
          | [ta], [a], _, h6, n1, _, h7 =>
            unfold chkA at h6
            simp only [Bool.and_eq_true] at h6
            exact se_ls G hk b1 b2 b3 b4 h6.1.1 (h7 a ta rfl rfl)
        · cases h3
      case Attribute ea nm ap =>
        obtain ⟨ks', l', tk, td, keys, vals, dp, ek, ed, rfl, hl, rfl, rfl, rfl, hh⟩ := dget_of h
        simp only [Bool.and_eq_true, decide_eq_true_eq] at hh
        obtain ⟨⟨⟨⟨⟨⟨rfl, h2⟩, h3⟩, h4⟩, h5⟩, h6⟩, h7⟩ := hh
        have hA : chkA l cf [.Dict keys vals dp, ek, ed] = true := by
          rw [hl]
          simp only [chkA, h3, h4, h5, h6, h7, Bool.and_true]
          rfl
        have hS := chkL_ok l cf [.Dict keys vals dp, ek, ed] kk X W hA F G
        subst hl
        obtain ⟨_, z1, _, z2, _, z3, _⟩ := hS
        exact se_dget G rfl h2 h3 h4 z1 z2 z3
    exact ⟨fun _ => se, fun _ => st_val G se (truth_of nb _) (fun e => by rw [evT] <;> intros <;> simp_all)⟩
  | .mt m a l, md, cf, x, kk, X, W, h, F, G => by
    have nb : notB x = true := by
      cases x <;> first | rfl | (unfold chk at h; cases h; done)
    have se : SE g X W x (ev ce (.mt m a l)) := by
      cases x <;> first | (unfold chk at h; cases h; done) | skip
      rename_i fn es ks p
      cases fn <;> first | (unfold chk at h; cases h; done) | skip
      rename_i ea nm ap
      cases ks with
      | cons a b => unfold chk at h; cases h
      | nil =>
        unfold chk at h
        simp only [Bool.and_eq_true, decide_eq_true_eq] at h
        obtain ⟨⟨⟨⟨⟨rfl, h2⟩, h3⟩, h4⟩, h5⟩, h6⟩ := h
        have ha := ((chk_ok a false cf ea kk X W h4 F G).1 rfl)
        have h7 := chkA1_ok l cf es kk X W h5 F G
        have h8 := chkA_ok l cf es kk X W h5 F G
        split at h6
        · rename_i tv
          match es, h5 with
          | [v], h5 =>
            unfold chkA at h5
            simp only [Bool.and_eq_true] at h5
            exact se_append G.hK h2 h3 h5.1.1 ha (h7 v tv rfl rfl)
          | [], h5 => unfold chkA at h5; cases h5
          | _ :: _ :: _, h5 =>
            unfold chkA at h5
            simp only [Bool.and_eq_true] at h5
            have := h5.2
            unfold chkA at this; cases this
        · rename_i tv
          match es, h5 with
          | [v], h5 =>
            unfold chkA at h5
            simp only [Bool.and_eq_true] at h5
            exact se_extend G.hK h2 h3 h5.1.1 ha (h7 v tv rfl rfl)
          | [], h5 => unfold chkA at h5; cases h5
          | _ :: _ :: _, h5 =>
            unfold chkA at h5
            simp only [Bool.and_eq_true] at h5
            have := h5.2
            unfold chkA at this; cases this
        · match es, h5 with
          | [], h5 => exact se_pop G.hK h2 h3 ha
          | _ :: _, h5 => unfold chkA at h5; cases h5
        · match es, h5 with
          | [w, v], h5 => exact se_insert G.hK h2 h3 (noS_all h5).1 ha h8
          | [], h5 => unfold chkA at h5; cases h5
          | [_], h5 =>
            unfold chkA at h5
            simp only [Bool.and_eq_true] at h5
            have := h5.2
            unfold chkA at this; cases this
          | _ :: _ :: _ :: _, h5 =>
            unfold chkA at h5
            simp only [Bool.and_eq_true] at h5
            have := h5.2
            unfold chkA at this
            simp only [Bool.and_eq_true] at this
            have := this.2
            unfold chkA at this; cases this
        · cases h6
    exact ⟨fun _ => se, fun _ => st_val G se (truth_of nb _) (fun e => by rw [evT] <;> intros <;> simp_all)⟩
  | .pm m a l, md, cf, x, kk, X, W, h, F, G => by
    have nb : notB x = true := by
      cases x <;> first | rfl | (unfold chk at h; cases h; done)
    have se : SE g X W x (ev ce (.pm m a l)) := by
      cases x <;> first | (unfold chk at h; cases h; done) | skip
      rename_i fn es ks p
      cases fn <;> first | (unfold chk at h; cases h; done) | skip
      rename_i ea nm ap
      match es, ks, h with
      | [v], [], h =>
        unfold chk at h
        simp only [Bool.and_eq_true, decide_eq_true_eq] at h
        obtain ⟨⟨⟨⟨⟨rfl, h2⟩, h3⟩, h6⟩, h4⟩, h5⟩ := h
        have ha := ((chk_ok a false cf ea kk X W h4 F G).1 rfl)
        exact se_pm G h2 h3 h6 ha (chkA_ok l cf [v] kk X W h5 F G)
      | [_], _ :: _, h => unfold chk at h; cases h
      | [], _, h => unfold chk at h; cases h
      | _ :: _ :: _, _, h => unfold chk at h; cases h
    exact ⟨fun _ => se, fun _ => st_val G se (truth_of nb _) (fun e => by rw [evT] <;> intros <;> simp_all)⟩
  | .isi a ts, m, cf, x, kk, X, W, h, F, G => by
    have nb : notB x = true := by
      cases x <;> first | rfl | (unfold chk at h; cases h; done)
    have se : SE g X W x (ev ce (.isi a ts)) := by
      cases x <;> first | (unfold chk at h; cases h; done) | skip
      rename_i fn es ks p
      cases fn <;> first | (unfold chk at h; cases h; done) | skip
      rename_i y yp
      match es, ks, h with
      | [ea, et], [], h =>
        unfold chk at h
        simp only [Bool.and_eq_true, decide_eq_true_eq] at h
        obtain ⟨⟨⟨⟨rfl, h2⟩, h3⟩, h4⟩, h5⟩ := h
        obtain ⟨b1, b2⟩ := blt_of F h2
        have ha := ((chk_ok a false cf ea kk X W h4 F G).1 rfl)
        split at h5
        · obtain ⟨c1, c2, c3, c4, c5⟩ := tyB_of F h5
          exact se_isi G b1 b2 c1 c2 c3 c4 c5 h3 ha
        · simp only [Bool.and_eq_true, decide_eq_true_eq, Bool.not_eq_true'] at h5
          obtain ⟨⟨h5, h6⟩, h7⟩ := h5
          obtain ⟨l, rfl, l2, l3⟩ := tysB_of h5
          exact se_isis G b1 b2 l2 (fun z => by rw [z] at h6; cases h6) h7 (fun i y t z z' => tyB_of F (l3 i y t z z')) h3 ha
        · cases h5
      | [_, _], _ :: _, h => unfold chk at h; cases h
      | [], _, h => unfold chk at h; cases h
      | [_], _, h => unfold chk at h; cases h
      | _ :: _ :: _ :: _, _, h => unfold chk at h; cases h
    exact ⟨fun _ => se, fun _ => st_val G se (truth_of nb _) (fun e => by rw [evT] <;> intros <;> simp_all)⟩
  | .isx a cs, m, cf, x, kk, X, W, h, F, G => by
    have nb : notB x = true := by
      cases x <;> first | rfl | (unfold chk at h; cases h; done)
    have se : SE g X W x (ev ce (.isx a cs)) := by
      cases x <;> first | (unfold chk at h; cases h; done) | skip
      rename_i fn es ks p
      cases fn <;> first | (unfold chk at h; cases h; done) | skip
      rename_i y yp
      match es, ks, h with
      | [ea, et], [], h =>
        unfold chk at h
        simp only [Bool.and_eq_true, decide_eq_true_eq] at h
        obtain ⟨⟨⟨⟨rfl, h2⟩, h3⟩, h4⟩, h5⟩ := h
        obtain ⟨b1, b2⟩ := blt_of F h2
        have ha := ((chk_ok a false cf ea kk X W h4 F G).1 rfl)
        split at h5
        · exact se_isx F.cls G b1 b2 (cnB_of F h5) h3 ha
        · simp only [Bool.and_eq_true, decide_eq_true_eq, Bool.not_eq_true'] at h5
          obtain ⟨⟨h5, h6⟩, h7⟩ := h5
          obtain ⟨l, rfl, l2, l3⟩ := cnsB_of h5
          exact se_isxs F.cls G b1 b2 l2 (fun z => by rw [z] at h6; cases h6) h7 (fun i y t z z' => cnB_of F (l3 i y t z z')) h3 ha
        · cases h5
      | [_, _], _ :: _, h => unfold chk at h; cases h
      | [], _, h => unfold chk at h; cases h
      | [_], _, h => unfold chk at h; cases h
      | _ :: _ :: _ :: _, _, h => unfold chk at h; cases h
    exact ⟨fun _ => se, fun _ => st_val G se (truth_of nb _) (fun e => by rw [evT] <;> intros <;> simp_all)⟩
  | .fld a n, m, cf, x, kk, X, W, h, F, G => by
    have nb : notB x = true := by
      cases x <;> first | rfl | (unfold chk at h; cases h; done)
    have se : SE g X W x (ev ce (.fld a n)) := by
      cases x <;> first | (unfold chk at h; cases h; done) | skip
      unfold chk at h
      simp only [Bool.and_eq_true, decide_eq_true_eq] at h
      obtain ⟨⟨h1, h2⟩, h3⟩ := h
      have e := F.fl _ _ h1
      subst e
      exact se_fld F.cls G (base_of h2 _ _ _) ((chk_ok a false cf _ kk X W h3 F G).1 rfl)
    exact ⟨fun _ => se, fun _ => st_val G se (truth_of nb _) (fun e => by rw [evT] <;> intros <;> simp_all)⟩
  | .frz a, m, cf, x, kk, X, W, h, F, G => by
    unfold chk at h
    rw [Bool.and_eq_true, Bool.not_eq_true'] at h
    obtain ⟨rfl, h⟩ := h
    exact ⟨fun _ => se_frz ((chk_ok a false cf x kk X W h F G).1 rfl), fun z => by cases z⟩
  | .told f t, m, cf, x, kk, X, W, h, F, G => by
    unfold chk at h
    rw [Bool.and_eq_true, Bool.not_eq_true'] at h
    obtain ⟨rfl, h⟩ := h
    split at h
    · rename_i q hq
      simp only [Bool.and_eq_true, decide_eq_true_eq] at h
      obtain ⟨⟨⟨⟨h1, h2⟩, h3⟩, h4⟩, h5⟩ := h
      have hx := lamP_eq hq
      subst hx
      obtain ⟨L, hk⟩ := F.lam (fun z => by rw [z] at h3; cases h3)
      have S := LamX.lamS_by (sc := X.env.scope) (by rw [F.sc]; exact h4)
      exact ⟨fun _ => F.ts _ _ h3 X W kk q.body q.sc q.p q.lp q.pos t rfl rfl rfl rfl G hk (gl_of F h1) L S (fun A outer s H E f' c' hr => (chk_ok t false (cf.lam q.sc) q.body (kk - 2) _ _ h5 (F.lamb hk S) (G.lam L.1 hk hr)).1 rfl), fun z => by cases z⟩
    · cases h
  | .lc t G' k l c own, m, cf, x, kk, X, W, h, F, G => by
    have nb : notB x = true := by
      cases x <;> first | rfl | (unfold chk at h; cases h; done)
    have se : SE g X W x (ev ce (.lc t G' k l c own)) := by
      cases x <;> first | (unfold chk at h; cases h; done) | skip
      rename_i elt gens scope p
      match gens, h with
      | [⟨tg, iter, ifs, asy⟩], h =>
        unfold chk at h
        simp only [Bool.and_eq_true] at h
        obtain ⟨⟨⟨⟨⟨⟨⟨hot, h0⟩, h1⟩, h2⟩, h3⟩, h4⟩, h5⟩, h6⟩ := h
        rw [Bool.not_eq_true'] at hot
        have hk := F.hot hot
        have h0 := of_decide_eq_true h0
        subst h0
        obtain ⟨q1, q2, q3, q4, q6, q7⟩ := lc_parts h1 h2 h3 F G
        have ht : InB X scope fun X' => SE g X' W0 elt (ev ce t) := fun s H C cl fp => ((chk_ok t false (cf.blk scope) elt kk _ W0 h4 (q6 s H C cl fp) (q7 s H C cl fp)).1 rfl)
        have hc : InB X scope fun X' => sTs g X' ifs (evc ce c) := fun s H C cl fp => by
          split at h6
          · cases c with
            | none => exact sTs_nil
            | some tc => cases h6
          · exact chkO'_ok c (cf.blk scope) _ kk _ h6 (q6 s H C cl fp) (q7 s H C cl fp)
          · cases h6
        split at h5
        · rename_i es hes
          obtain ⟨n1, n2⟩ := noS_all h5
          obtain ⟨i1, i2⟩ := iter_si F G hes n1 n2 (chkA_ok l cf es kk X W h5 F G) (fun a ta e1 e2 => chkA1_ok l cf es kk X W h5 F G a ta e1 e2)
          have := se_lc (pos := p) G hk i2 q1 i1 q2 q3 hc ht
          rw [q4] at this
          exact this
        · cases h5
      | [], h => unfold chk at h; cases h
      | ⟨_, _, _, _⟩ :: _ :: _, h => unfold chk at h; cases h
    exact ⟨fun _ => se, fun _ => st_val G se (truth_of nb _) (fun e => by rw [evT] <;> intros <;> simp_all)⟩
  | .lcit t G' i c own, m, cf, x, kk, X, W, h, F, G => by
    have nb : notB x = true := by
      cases x <;> first | rfl | (unfold chk at h; cases h; done)
    have se : SE g X W x (ev ce (.lcit t G' i c own)) := by
      cases x <;> first | (unfold chk at h; cases h; done) | skip
      rename_i elt gens scope p
      match gens, h with
      | [⟨tg, iter, ifs, asy⟩], h =>
        unfold chk at h
        simp only [Bool.and_eq_true] at h
        obtain ⟨⟨⟨⟨⟨⟨⟨hot, h0⟩, h1⟩, h2⟩, h3⟩, h4⟩, h5⟩, h6⟩ := h
        rw [Bool.not_eq_true'] at hot
        have hk := F.hot hot
        have h0 := of_decide_eq_true h0
        subst h0
        obtain ⟨q1, q2, q3, q4, q6, q7⟩ := lc_parts h1 h2 h3 F G
        have ht : InB X scope fun X' => SE g X' W0 elt (ev ce t) := fun s H C cl fp => ((chk_ok t false (cf.blk scope) elt kk _ W0 h4 (q6 s H C cl fp) (q7 s H C cl fp)).1 rfl)
        have hc : InB X scope fun X' => sTs g X' ifs (evc ce c) := fun s H C cl fp => by
          split at h6
          · cases c with
            | none => exact sTs_nil
            | some tc => cases h6
          · exact chkO'_ok c (cf.blk scope) _ kk _ h6 (q6 s H C cl fp) (q7 s H C cl fp)
          · cases h6
        cases hq : icP tg iter with
        | none => rw [hq] at h5; cases h5
        | some pr =>
          rw [hq] at h5
          obtain ⟨e1, e2⟩ := icP_eq hq
          subst e1 e2
          simp only [Bool.and_eq_true, decide_eq_true_eq] at h5
          obtain ⟨⟨⟨l1, l2⟩, l3⟩, l4⟩ := h5
          obtain ⟨p1, p2, _⟩ := plainN_of l4
          have := se_lcit (i := i) (p := pr.px) (pos := p) G hk q1 l1 (se_var (by rw [F.N]; exact l2) (by rw [F.sc]; exact vis_of l3) p1 p2) q2 q3 hc ht
          rw [q4] at this
          exact this
      | [], h => unfold chk at h; cases h
      | ⟨_, _, _, _⟩ :: _ :: _, h => unfold chk at h; cases h
    exact ⟨fun _ => se, fun _ => st_val G se (truth_of nb _) (fun e => by rw [evT] <;> intros <;> simp_all)⟩
termination_by structural t => t
theorem chkA_ok : ∀ (l : List T) (cf : Cf) (es : List Expr) (kk : Nat) (X : Cx) (W : WX), chkA l cf es = true → Fit cf g ce kk X → Good g kk X W → SA g X W es (evs ce l)
  | [], cf, [], kk, X, W, h, F, G => sa_nil
  | [], cf, _ :: _, kk, X, W, h, F, G => by unfold chkA at h; cases h
  | _ :: _, cf, [], kk, X, W, h, F, G => by unfold chkA at h; cases h
  | t :: l, cf, e :: m, kk, X, W, h, F, G => by
    unfold chkA at h
    simp only [Bool.and_eq_true] at h
    exact sa_cons ((chk_ok t false cf e kk X W h.1.2 F G).1 rfl) (chkA_ok l cf m kk X W h.2 F G) (star1 h.1.1 m X.env)
termination_by structural l => l
theorem chkL_ok : ∀ (l : List T) (cf : Cf) (es : List Expr) (kk : Nat) (X : Cx) (W : WX), chkA l cf es = true → Fit cf g ce kk X → Good g kk X W → SEs g X W ce es l
  | [], cf, [], kk, X, W, h, F, G => trivial
  | [], cf, _ :: _, kk, X, W, h, F, G => by unfold chkA at h; cases h
  | _ :: _, cf, [], kk, X, W, h, F, G => by unfold chkA at h; cases h
  | t :: l, cf, e :: m, kk, X, W, h, F, G => by
    unfold chkA at h
    simp only [Bool.and_eq_true] at h
    exact ⟨h.1.1, (chk_ok t false cf e kk X W h.1.2 F G).1 rfl, chkL_ok l cf m kk X W h.2 F G⟩
termination_by structural l => l
theorem chkD_ok : ∀ (l : List T) (cf : Cf) (es : List Expr) (ks : List DK) (kk : Nat) (X : Cx) (W : WX), chkA l cf es = true → ks.length = es.length → Fit cf g ce kk X → Good g kk X W → SD g X W (ks.zip es) (evs ce l)
  | [], cf, [], ks, kk, X, W, h, hl, F, G => by
    have : ks = [] := List.length_eq_zero_iff.mp (by simpa using hl)
    subst this
    exact sd_nil
  | [], cf, _ :: _, _, kk, X, W, h, _, F, G => by unfold chkA at h; cases h
  | _ :: _, cf, [], _, kk, X, W, h, _, F, G => by unfold chkA at h; cases h
  | t :: l, cf, e :: m, [], kk, X, W, h, hl, F, G => by cases hl
  | t :: l, cf, e :: m, k :: ks, kk, X, W, h, hl, F, G => by
    unfold chkA at h
    simp only [Bool.and_eq_true] at h
    exact sd_cons ((chk_ok t false cf e kk X W h.1.2 F G).1 rfl) (chkD_ok l cf m ks kk X W h.2 (by simpa using hl) F G)
termination_by structural l => l
theorem chkA1_ok : ∀ (l : List T) (cf : Cf) (es : List Expr) (kk : Nat) (X : Cx) (W : WX), chkA l cf es = true → Fit cf g ce kk X → Good g kk X W → ∀ a ta, es = [a] → l = [ta] → SE g X W a (ev ce ta)
  | [], cf, es, kk, X, W, h, F, G => fun a ta _ e => by cases e
  | t :: l, cf, es, kk, X, W, h, F, G => fun a ta e1 e2 => by
    subst e1
    unfold chkA at h
    simp only [Bool.and_eq_true] at h
    have := (chk_ok t false cf a kk X W h.1.2 F G).1 rfl
    cases e2
    exact this
termination_by structural l => l
theorem chkO_ok : ∀ (o : Option T) (cf : Cf) (x : Option Expr) (kk : Nat) (X : Cx) (W : WX), chkO o cf x = true → Fit cf g ce kk X → Good g kk X W → SO g X W x (evo ce o)
  | none, cf, none, kk, X, W, h, F, G => so_none
  | none, cf, some _, kk, X, W, h, F, G => by unfold chkO at h; cases h
  | some t, cf, none, kk, X, W, h, F, G => by unfold chkO at h; cases h
  | some t, cf, some e, kk, X, W, h, F, G => by
    unfold chkO at h
    exact so_some ((chk_ok t false cf e kk X W h F G).1 rfl)
termination_by structural o => o
theorem chkO'_ok : ∀ (o : Option T) (cf : Cf) (x : Expr) (kk : Nat) (X : Cx), chkO' o cf x = true → Fit cf g ce kk X → Good g kk X W0 → sTs g X [x] (evc ce o)
  | none, cf, x, kk, X, h, F, G => by unfold chkO' at h; cases h
  | some t, cf, x, kk, X, h, F, G => by
    unfold chkO' at h
    exact sTs_one ((chk_ok t true cf x kk X W0 h F G).2 rfl)
termination_by structural o => o
end
end
end Vd
/-! Vd20: suites; defs. -/
namespace Vd
open PySem PySem.Spec PyProof.Rows L2
section
variable {g : Gx} {ce : CE}
/-- the frame's own code runs -/
structure Frm (X : Cx) : Prop where
  st : X.stack = X.env :: X.outer
  fr : X.env.frame = some X.env.locals
  ex : X.ex = []
theorem Good.tr {kk : Nat} {X : Cx} {W W' : WX} (G : Good g kk X W) {pn : List (Addr × Obj)} {xe : Value → Shared → Prop} (tk : Takes (X.tr pn xe) W') : Good g kk (X.tr pn xe) W' := ⟨G.hK, G.nd, G.calm, tk, G.rm, G.hu', G.gd⟩
theorem Fit.tr {cf : Cf} {kk : Nat} {X : Cx} (F : Fit cf g ce kk X) (pn : List (Addr × Obj)) (xe : Value → Shared → Prop) : Fit cf g ce kk (X.tr pn xe) := ⟨F.N, F.sc, F.kind, F.fn, F.fs, F.cs, F.bs, F.hot, F.xs, F.cls, F.rs, F.fl, F.ks, F.lam, F.ts, F.fsl, F.ksl, F.rp⟩
theorem Good.heat {kk : Nat} {X : Cx} {W : WX} (G : Good g kk X W) (a : Addr) : Good g 0 (hotCx X a) (fun _ _ _ _ => False) := ⟨G.hK, G.nd, fun z => absurd z (Nat.lt_irrefl 0), takes0, fun z => absurd z (Nat.lt_irrefl 0), by
  have := G.hu'
  show (X.A.mark (some (.ref a))).units + 64 < cLine
  exact this, G.gd⟩
theorem Fit.heat {cf : Cf} {kk : Nat} {X : Cx} (F : Fit cf g ce kk X) (a : Addr) : Fit cf.heat g ce 0 (hotCx X a) := ⟨F.N, F.sc, F.kind, F.fn, fun _ _ _ m => absurd m (by simp [Cf.heat]), F.cs, F.bs, fun z => absurd z (by simp [Cf.heat]), F.xs, F.cls, fun _ _ m => absurd m (by simp [Cf.heat]), F.fl, fun _ _ _ _ m => absurd m (by simp [Cf.heat]), fun z => absurd rfl z, fun _ _ m => absurd m (by simp [Cf.heat]), fun _ _ _ m => absurd m (by simp [Cf.heat]), fun _ _ _ _ m => absurd m (by simp [Cf.heat]), F.rp⟩
theorem names_of {cf : Cf} {kk : Nat} {X : Cx} (F : Fit cf g ce kk X) {c : Nat} {x : Str} {p : Pos} (h : cnB cf c (.Name x p) = true) : Names X x (g.cv c) := by
  obtain ⟨h1, h2, _, h3⟩ := cnB_of F h
  exact ⟨h1, h2, h3⟩
theorem hdL_of {cf : Cf} {kk : Nat} {X : Cx} (F : Fit cf g ce kk X) {cs : List Nat} {i : Option Nat} {h : ExceptHandler} {su : List Stmt} (q : hdL cf cs i h = some su) : ∃ c, cs = [c] ∧ ∀ f, (∀ a, SSs g (hotCx X a) (fun _ _ _ _ => False) su f) → ClB X g ce h c i f := by
  unfold hdL at q
  split at q
  · rename_i c
    refine ⟨c, rfl, fun f hs => ?_⟩
    unfold hdB at q
    split at q
    · split at q
      · rename_i hc
        cases q
        obtain ⟨h1, rfl⟩ := hc
        exact .only (names_of F h1) hs
      · cases q
    · split at q
      · split at q
        · rename_i hc
          cases q
          obtain ⟨h1, h2, h3⟩ := hc
          exact .as (names_of F h1) (by rw [F.N]; exact h2) (by show X.env.scope.names.lookup _ = _; rw [F.sc]; exact h3) hs
        · cases q
      · cases q
    · cases q
  · cases q
mutual
theorem chkS_ok : ∀ (s : S) (cf : Cf) (x : Stmt) (kk : Nat) (X : Cx) (W : WX), chkS s cf x = true → Fit cf g ce kk X → Good g kk X W → PassesOwn (model X.prog X.w) X.A X.env X.xe → Frm X → SS1 g X W x (ex ce s)
  | .set i t, cf, x, kk, X, W, h, F, G, hp, Fr => by
    cases x <;> first | (unfold chkS at h; cases h; done) | skip
    rename_i tgs a p
    match tgs, h with
    | [tg], h =>
      cases tg <;> first | (unfold chkS at h; cases h; done) | skip
      rename_i y py
      unfold chkS at h
      simp only [Bool.and_eq_true, decide_eq_true_eq] at h
      obtain ⟨⟨⟨h1, h2⟩, h3⟩, h4⟩ := h
      obtain ⟨l1, l2⟩ := loc_of F h2
      have hi : X.N[i]? = some y := by rw [F.N]; exact h1
      split at h4
      · -- a comprehension
        rename_i t G' k l c own
        cases a <;> first | (unfold chk at h3; cases h3; done) | skip
        rename_i elt gens scope pp
        match gens, h3 with
        | [⟨tg, iter, ifs, asy⟩], h3 =>
          have se := chk_ok (g := g) (ce := ce)
          unfold chk at h3
          simp only [Bool.and_eq_true] at h3
          obtain ⟨⟨⟨⟨⟨⟨⟨hot, h0⟩, h1'⟩, h2'⟩, h3'⟩, h4'⟩, h5'⟩, h6'⟩ := h3
          rw [Bool.not_eq_true'] at hot
          have h0 := of_decide_eq_true h0
          subst h0
          obtain ⟨q1, q2, q3, q4, q6, q7⟩ := lc_parts h1' h2' h3' F G
          have ht : InB X scope fun X' => SE g X' W0 elt (ev ce t) := fun s H C cl fp => (chk_ok t false (cf.blk scope) elt kk _ W0 h4' (q6 s H C cl fp) (q7 s H C cl fp)).1 rfl
          have hc : InB X scope fun X' => sTs g X' ifs (evc ce c) := fun s H C cl fp => by
            split at h6'
            · cases c with
              | none => exact sTs_nil
              | some tc => cases h6'
            · exact chkO'_ok c (cf.blk scope) _ kk _ h6' (q6 s H C cl fp) (q7 s H C cl fp)
            · cases h6'
          split at h5'
          · rename_i es hes
            obtain ⟨n1, n2⟩ := noS_all h5'
            obtain ⟨i1, i2⟩ := iter_si F G hes n1 n2 (chkA_ok l cf es kk X W h5' F G) (fun a ta e1 e2 => chkA1_ok l cf es kk X W h5' F G a ta e1 e2)
            have := ss_setlc (pos := pp) (spos := p) (py := py) G (F.hot hot) i2 q1 i1 q2 q3 hc ht hi l1 l2 (by rw [F.sc]; exact F.kind)
            rw [q4] at this
            exact this
          · cases h5'
        | [], h3 => unfold chk at h3; cases h3
        | ⟨_, _, _, _⟩ :: _ :: _, h3 => unfold chk at h3; cases h3
      · exact ss_set G hi l1 l2 h4 ((chk_ok t false cf a kk X W h3 F G).1 rfl)
    | [], h => unfold chkS at h; cases h
    | a :: b :: c, h => cases a <;> (unfold chkS at h; cases h)
  | .par is ts, cf, x, kk, X, W, h, F, G, hp, Fr => by
    match is, ts, h with
    | [i, j], [ta, tb], h' =>
      clear h
      unfold chkS at h'
      cases q : parP x with
      | none => rw [q] at h'; cases h'
      | some pr =>
        rw [q] at h'
        obtain ⟨y, py, z, pz, va, vb⟩ := pr
        obtain ⟨kt, pt, k2, p2, p, rfl⟩ := parP_eq q
        simp only [Bool.and_eq_true, decide_eq_true_eq, Bool.not_eq_true'] at h'
        obtain ⟨⟨⟨⟨⟨⟨⟨⟨hot, h1⟩, h2⟩, h3⟩, h4⟩, h5⟩, h6⟩, h7⟩, h8⟩ := h'
        unfold swB at h4
        simp only [Bool.and_eq_true, decide_eq_true_eq, Bool.not_eq_true'] at h4
        obtain ⟨⟨⟨⟨⟨w1, w2⟩, w3⟩, w4⟩, w5⟩, w6⟩ := h4
        refine ss_par2 G (F.hot hot) (by rw [F.N]; exact h1) (by rw [F.N]; exact h2) h3 (by rw [F.sc]; exact w1) (by rw [F.sc]; exact w2) (swB_ok (by rw [F.sc]; exact F.kind) (by rw [F.sc]; exact w1) (by rw [F.sc]; exact w2) w3 w4 w5 w6 h5 h6) ?_
        exact sa_cons ((chk_ok ta false cf va kk X W h7 F G).1 rfl) (sa_cons ((chk_ok tb false cf vb kk X W h8 F G).1 rfl) sa_nil (star1 h6 [] X.env)) (star1 h5 [vb] X.env)
    | [i, j, l], [ta, tb, tc], h' =>
      clear h
      unfold chkS at h'
      cases q : parP3 x with
      | none => rw [q] at h'; cases h'
      | some pr =>
        rw [q] at h'
        obtain ⟨kt, pt, k2, p2, p, rfl⟩ := parP3_eq q
        simp only [Bool.and_eq_true, decide_eq_true_eq, Bool.not_eq_true'] at h'
        obtain ⟨⟨⟨⟨⟨⟨⟨⟨⟨⟨⟨⟨⟨hot, h1⟩, h2⟩, h3⟩, d1⟩, d2⟩, d3⟩, h4⟩, n1⟩, n2⟩, n3⟩, c1⟩, c2⟩, c3⟩ := h'
        unfold swB3 at h4
        simp only [Bool.and_eq_true, decide_eq_true_eq, Bool.not_eq_true'] at h4
        obtain ⟨⟨⟨⟨⟨⟨⟨⟨⟨w1, w2⟩, w3⟩, w4⟩, w5⟩, w6⟩, w7⟩, w8⟩, w9⟩, w10⟩ := h4
        refine ss_par3 G (F.hot hot) (by rw [F.N]; exact h1) (by rw [F.N]; exact h2) (by rw [F.N]; exact h3) d1 d2 d3 (by rw [F.sc]; exact w1) (by rw [F.sc]; exact w2) (by rw [F.sc]; exact w3) (swB3_ok (by rw [F.sc]; exact F.kind) (by rw [F.sc]; exact w1) (by rw [F.sc]; exact w2) (by rw [F.sc]; exact w3) w4 w5 w6 w7 w8 w9 w10 n1 n2 n3) ?_
        exact sa_cons ((chk_ok ta false cf pr.a kk X W c1 F G).1 rfl) (sa_cons ((chk_ok tb false cf pr.b kk X W c2 F G).1 rfl) (sa_cons ((chk_ok tc false cf pr.c kk X W c3 F G).1 rfl) sa_nil (star1 n3 [] X.env)) (star1 n2 [pr.c] X.env)) (star1 n1 [pr.b, pr.c] X.env)
    | [], _, h => unfold chkS at h; cases h
    | [_], _, h => unfold chkS at h; cases h
    | [_, _], [], h => unfold chkS at h; cases h
    | [_, _], [_], h => unfold chkS at h; cases h
    | [_, _], _ :: _ :: _ :: _, h => unfold chkS at h; cases h
    | [_, _, _], [], h => unfold chkS at h; cases h
    | [_, _, _], [_], h => unfold chkS at h; cases h
    | [_, _, _], [_, _], h => unfold chkS at h; cases h
    | [_, _, _], _ :: _ :: _ :: _ :: _, h => unfold chkS at h; cases h
    | _ :: _ :: _ :: _ :: _, _, h => unfold chkS at h; cases h
  | .unp Gt t, cf, x, kk, X, W, h, F, G, hp, Fr => by
    cases Gt with
    | nm i => unfold chkS at h; cases h
    | tp Gs =>
      cases x <;> first | (unfold chkS at h; cases h; done) | skip
      rename_i tgs a p
      match tgs, h with
      | [tg], h =>
        cases tg <;> first | (unfold chkS at h; cases h; done) | skip
        rename_i els kt pt
        unfold chkS at h
        simp only [Bool.and_eq_true, Bool.not_eq_true'] at h
        obtain ⟨⟨⟨⟨hot, h1⟩, h2⟩, h3⟩, h4⟩ := h
        obtain ⟨g1, g2, g3⟩ := tgsB_ok F G Gs els h1
        exact ss_unp (sg_tp G.hK (G.calm (F.hot hot)) g2 g3 g1) h2 ((Bool.or_eq_true _ _).mp h3 |>.elim unB_ok (celT_ok F.sc)) ((chk_ok t false cf a kk X W h4 F G).1 rfl)
      | [], h => unfold chkS at h; cases h
      | a :: _ :: _, h => cases a <;> (unfold chkS at h; cases h)
  | .sub ta ti tv, cf, x, kk, X, W, h, F, G, hp, Fr => by
    cases x <;> first | (unfold chkS at h; cases h; done) | skip
    rename_i tgs a p
    match tgs, h with
    | [tg], h =>
      cases tg <;> first | (unfold chkS at h; cases h; done) | skip
      unfold chkS at h
      simp only [Bool.and_eq_true] at h
      obtain ⟨⟨⟨⟨h1, h2⟩, h3⟩, h4⟩, h5⟩ := h
      exact ss_sub G h1 h2 subB_ok ((chk_ok tv false cf _ kk X W h5 F G).1 rfl) ((chk_ok ta false cf _ kk X W h3 F G).1 rfl) ((chk_ok ti false cf _ kk X W h4 F G).1 rfl)
    | [], h => unfold chkS at h; cases h
    | a :: _ :: _, h => cases a <;> (unfold chkS at h; cases h)
  | .exp t, cf, x, kk, X, W, h, F, G, hp, Fr => by
    cases x <;> first | (unfold chkS at h; cases h; done) | skip
    unfold chkS at h
    rw [Bool.and_eq_true] at h
    exact ss_exp ((chk_ok t false cf _ kk X W h.2 F G).1 rfl) (sw_no h.1 _ _ _)
  | .ret t, cf, x, kk, X, W, h, F, G, hp, Fr => by
    cases x <;> first | (unfold chkS at h; cases h; done) | skip
    rename_i o p
    cases o with
    | none => unfold chkS at h; cases h
    | some a =>
      unfold chkS at h
      exact ss_ret ((chk_ok t false cf _ kk X W h F G).1 rfl)
  | .retn, cf, x, kk, X, W, h, F, G, hp, Fr => by
    cases x <;> first | (unfold chkS at h; cases h; done) | skip
    rename_i o p
    cases o with
    | none => exact ss_retn
    | some a => unfold chkS at h; cases h
  | .ifs c a b, cf, x, kk, X, W, h, F, G, hp, Fr => by
    cases x <;> first | (unfold chkS at h; cases h; done) | skip
    unfold chkS at h
    simp only [Bool.and_eq_true] at h
    exact ss_ifs ((chk_ok c true cf _ kk X W h.1.1 F G).2 rfl) (chkSs_ok a cf _ kk X W h.1.2 F G hp Fr) (chkSs_ok b cf _ kk X W h.2 F G hp Fr)
  | .fors Gt k l b, cf, x, kk, X, W, h, F, G, hp, Fr => by
    cases x <;> first | (unfold chkS at h; cases h; done) | skip
    rename_i tg iter body els p
    cases els with
    | cons a b => unfold chkS at h; cases h
    | nil =>
      unfold chkS at h
      simp only [Bool.and_eq_true] at h
      obtain ⟨⟨⟨⟨hot, h1⟩, h2⟩, h3⟩, h4⟩ := h
      rw [Bool.not_eq_true'] at hot
      have hb := chkSs_ok b cf body kk X W h4 F G hp Fr
      split at h3
      · rename_i es hes
        obtain ⟨n1, n2⟩ := noS_all h3
        obtain ⟨i1, i2⟩ := iter_si F G hes n1 n2 (chkA_ok l cf es kk X W h3 F G) (fun a ta e1 e2 => chkA1_ok l cf es kk X W h3 F G a ta e1 e2)
        exact ss_for G (F.hot hot) hp i2 i1 (tgB_ok F G Gt tg h1) hb
      · cases h3
  | .forit Gt i b, cf, x, kk, X, W, h, F, G, hp, Fr => by
    unfold chkS at h
    cases q : itP x with
    | none => rw [q] at h; cases h
    | some pr =>
      rw [q] at h
      have hx := itP_eq q
      subst hx
      simp only [Bool.and_eq_true] at h
      obtain ⟨⟨⟨⟨hot, h1⟩, h3⟩, h4⟩, h5⟩ := h
      rw [Bool.not_eq_true'] at hot
      exact ss_forit G (F.hot hot) hp h3 ((chk_ok (.var i) false cf _ kk X W h4 F G).1 rfl) (tgB_ok F G Gt _ h1) (chkSs_ok b cf pr.body kk X W h5 F G hp Fr)
  | .whl n c b, cf, x, kk, X, W, h, F, G, hp, Fr => by
    cases x <;> first | (unfold chkS at h; cases h; done) | skip
    rename_i ec body els p
    cases els with
    | cons a b => unfold chkS at h; cases h
    | nil =>
      unfold chkS at h
      simp only [Bool.and_eq_true] at h
      exact ss_whl hp ((chk_ok c true cf _ kk X W h.1 F G).2 rfl) (chkSs_ok b cf body kk X W h.2 F G hp Fr)
  | .brk, cf, x, kk, X, W, h, F, G, hp, Fr => by
    cases x <;> first | (unfold chkS at h; cases h; done) | skip
    exact ss_brk
  | .cnt, cf, x, kk, X, W, h, F, G, hp, Fr => by
    cases x <;> first | (unfold chkS at h; cases h; done) | skip
    exact ss_cnt
  | .pas, cf, x, kk, X, W, h, F, G, hp, Fr => by
    cases x <;> first | (unfold chkS at h; cases h; done) | skip
    exact ss_pass
  | .bad, cf, x, kk, X, W, h, F, G, hp, Fr => ss_bad
  | .rse c l, cf, x, kk, X, W, h, F, G, hp, Fr => by
    unfold chkS at h
    cases q : rseP x with
    | none => rw [q] at h; cases h
    | some pr =>
      obtain ⟨y, e1, es⟩ := pr
      rw [q] at h
      obtain ⟨p1, p2, p3, rfl⟩ := rseP_eq q
      simp only [Bool.and_eq_true, decide_eq_true_eq, Bool.not_eq_true'] at h
      obtain ⟨⟨⟨⟨hot, h1⟩, h2⟩, h3⟩, h4⟩ := h
      obtain ⟨r1, r2⟩ := F.rs y c h3
      obtain ⟨n1, n2⟩ := noS_all h4
      rw [List.all_cons, Bool.and_eq_true] at n1
      exact ss_rse G (by omega) (F.hot hot) r1 (gl_of F h1) (by simpa using h2) (star1 n1.1 es X.env) (plain_es n1.2) (chkA_ok l cf _ kk X W h4 F G)
  | .tryc b cs i s cs2 i2 s2, cf, x, kk, X, W, h, F, G, hp, Fr => by
    unfold chkS at h
    cases q : tryP x with
    | none => rw [q] at h; cases h
    | some pr =>
      obtain ⟨body, h0, o⟩ := pr
      rw [q] at h
      obtain ⟨p, rfl⟩ := tryP_eq q
      simp only [Bool.and_eq_true, Bool.not_eq_true'] at h
      obtain ⟨⟨⟨hot, h1⟩, h2⟩, h3⟩ := h
      have hb : ∀ (W' : WX) (pn : List (Addr × Obj)) (xe : Value → Shared → Prop), Takes (X.tr pn xe) W' → PassesOwn (model X.prog X.w) X.A X.env xe → SSs g (X.tr pn xe) W' body (exs ce b) := fun W' pn xe tk hp' =>
        chkSs_ok b cf body kk _ W' h1 (F.tr pn xe) (G.tr tk) hp' ⟨Fr.st, Fr.fr, Fr.ex⟩
      have hot' : ∀ a, PassesOwn (model (hotCx X a).prog (hotCx X a).w) (hotCx X a).A (hotCx X a).env (hotCx X a).xe := fun _ => PassesOwn.never
      cases q1 : hdL cf cs i h0 with
      | none => rw [q1] at h2; cases h2
      | some su =>
        rw [q1] at h2
        obtain ⟨c, rfl, c1⟩ := hdL_of (g := g) (ce := ce) F q1
        have k1 := c1 (exs ce s) fun a => chkSs_ok s cf.heat su 0 _ _ h2 (F.heat a) (G.heat a) (hot' a) ⟨Fr.st, Fr.fr, Fr.ex⟩
        cases o with
        | none =>
          have : cs2 = [] := by simpa using h3
          subst this
          exact ss_try1 F.cls G Fr.st Fr.fr Fr.ex hb k1
        | some h02 =>
          dsimp only at h3
          cases q2 : hdL cf cs2 i2 h02 with
          | none => rw [q2] at h3; cases h3
          | some su2 =>
            rw [q2] at h3
            obtain ⟨c2, rfl, c3⟩ := hdL_of (g := g) (ce := ce) F q2
            have k2 := c3 (exs ce s2) fun a => chkSs_ok s2 cf.heat su2 0 _ _ h3 (F.heat a) (G.heat a) (hot' a) ⟨Fr.st, Fr.fr, Fr.ex⟩
            exact ss_try2 F.cls G Fr.st Fr.fr Fr.ex hb k1 k2
termination_by structural s => s
theorem chkSs_ok : ∀ (l : List S) (cf : Cf) (x : List Stmt) (kk : Nat) (X : Cx) (W : WX), chkSs l cf x = true → Fit cf g ce kk X → Good g kk X W → PassesOwn (model X.prog X.w) X.A X.env X.xe → Frm X → SSs g X W x (exs ce l)
  | [], cf, [], kk, X, W, h, F, G, hp, Fr => ss_nil
  | [], cf, _ :: _, kk, X, W, h, F, G, hp, Fr => by unfold chkSs at h; cases h
  | _ :: _, cf, [], kk, X, W, h, F, G, hp, Fr => by unfold chkSs at h; cases h
  | s :: l, cf, x :: m, kk, X, W, h, F, G, hp, Fr => by
    unfold chkSs at h
    rw [Bool.and_eq_true] at h
    exact ss_cons (chkS_ok s cf x kk X W h.1 F G hp Fr) (chkSs_ok l cf m kk X W h.2 F G hp Fr)
termination_by structural l => l
end
end
/-! ### a def -/
section
variable {g : Gx} {ce : CE}
theorem VS.more {Hb H : Hp} {e : VE} {σ : L2.St} (I : VS g Hb e σ H) (n : Nat) : VS g Hb (e ++ List.replicate n .un) (σ ++ List.replicate n none) H ∧ ∀ a, Ow g (e ++ List.replicate n .un) (σ ++ List.replicate n none) a ↔ Ow g e σ a := by
  have at1 : ∀ (i : Nat) s, (e ++ List.replicate n SS.un)[i]? = some s → s ≠ .un → e[i]? = some s := fun i s h ns => by
    by_cases hi : i < e.length
    · rw [List.getElem?_append_left hi] at h; exact h
    · rw [List.getElem?_append_right (by omega)] at h
      rw [List.getElem?_replicate] at h
      split at h
      · cases h; exact absurd rfl ns
      · cases h
  have at2 : ∀ (i : Nat) s, e[i]? = some s → (e ++ List.replicate n SS.un)[i]? = some s := fun i s h => by
    rw [List.getElem?_append_left (List.getElem?_eq_some_iff.mp h).1]; exact h
  have sg : ∀ (i : Nat), i < e.length → (σ ++ List.replicate n none)[i]? = σ[i]? := fun i h => by
    rw [List.getElem?_append_left (by rw [← I.len]; exact h)]
  have li : ∀ (i : Nat) s, e[i]? = some s → i < e.length := fun i s h => (List.getElem?_eq_some_iff.mp h).1
  refine ⟨⟨by simp [I.len], I.ex, fun i d h => ?_, fun i b k c h => ?_, fun i j b k c b' k' c' a h h' s s' => ?_, I.tok, I.tbn⟩, fun a => ⟨?_, ?_⟩⟩
  · have h := at1 i _ h (by simp)
    rw [sg i (li i _ h)]; exact I.dat i d h
  · have h := at1 i _ h (by simp)
    rw [sg i (li i _ h)]; exact I.own i b k c h
  · have h := at1 i _ h (by simp)
    have h' := at1 j _ h' (by simp)
    rw [sg i (li i _ h)] at s
    rw [sg j (li j _ h')] at s'
    exact I.inj i j b k c b' k' c' a h h' s s'
  · rintro (z | ⟨i, b, k, c, z1, z2⟩)
    · exact .inl z
    · have h := at1 i _ z1 (by simp)
      rw [sg i (li i _ h)] at z2
      exact .inr ⟨i, b, k, c, h, z2⟩
  · rintro (z | ⟨i, b, k, c, z1, z2⟩)
    · exact .inl z
    · exact .inr ⟨i, b, k, c, at2 i _ z1, by rw [sg i (li i _ z1)]; exact z2⟩
theorem backA_at : ∀ {as : List Arg} {e : VE} {l : List Arg}, backA as e = some l → l.length = as.length ∧ ∀ (i : Nat) a, as[i]? = some a → ∃ a', l[i]? = some a' ∧ ((∃ d, a = .p d ∧ a' = .p d) ∨ ∃ k c k' c', a = .o k c ∧ e[i]? = some (.own true k' c') ∧ a' = .o k c')
  | [], e, l, h => by unfold backA at h; cases h; exact ⟨rfl, fun i a h => by simp at h⟩
  | a :: as, [], l, h => by unfold backA at h; cases h
  | a :: as, s :: e, l, h => by
    unfold backA at h
    cases a with
    | p d =>
      dsimp only at h
      cases q : backA as e with
      | none => rw [q] at h; cases h
      | some l' =>
        rw [q] at h
        cases h
        obtain ⟨h1, h2⟩ := backA_at q
        refine ⟨by simp [h1], fun i a hi => ?_⟩
        cases i with
        | zero => cases hi; exact ⟨_, rfl, .inl ⟨d, rfl, rfl⟩⟩
        | succ i =>
          obtain ⟨a', z1, z2⟩ := h2 i a (by simpa using hi)
          exact ⟨a', by simpa using z1, by simpa using z2⟩
    | o k c =>
      cases s with
      | un => cases h
      | dat d => cases h
      | own b k' c' =>
        cases b with
        | false => cases h
        | true =>
          dsimp only at h
          cases q : backA as e with
          | none => rw [q] at h; cases h
          | some l' =>
            rw [q] at h
            cases h
            obtain ⟨h1, h2⟩ := backA_at q
            refine ⟨by simp [h1], fun i a hi => ?_⟩
            cases i with
            | zero => cases hi; exact ⟨_, rfl, .inr ⟨k, c, k', c', rfl, rfl, rfl⟩⟩
            | succ i =>
              obtain ⟨a', z1, z2⟩ := h2 i a (by simpa using hi)
              exact ⟨a', by simpa using z1, by simpa using z2⟩
/-- from the end of a body back to its arguments -/
theorem back_ok {Hb H Hb' H' : Hp} {as l : List Arg} {vs : List V} {n : Nat} {σ' : L2.St} {e' : VE} (I : VS g Hb (aE as) (aS vs) H) (sk : SK g (aS vs ++ List.replicate n none) Hb H (aE as ++ List.replicate n .un) σ' Hb' H' e') (h : backA as e' = some l) :
    VP (Ow g (aE as) (aS vs)) Hb H (Ow g (aE l) (aS vs)) Hb' H' ∧ VS g Hb' (aE l) (aS vs) H' ∧ AK as l ∧ (∀ a, Ow g (aE l) (aS vs) a → Ow g e' σ' a) ∧ ∀ a, Ow g (aE as) (aS vs) a → Ow g e' σ' a := by
  obtain ⟨I2, ow2⟩ := I.more n
  obtain ⟨h1, h2⟩ := backA_at h
  have hl : as.length = vs.length := by simpa using I.len
  have base : ∀ (i : Nat) a, as[i]? = some a → (aE as ++ List.replicate n SS.un)[i]? = some a.ss ∧ (aS vs ++ List.replicate n none)[i]? = (aS vs)[i]? := fun i a hi => by
    have hlt := (List.getElem?_eq_some_iff.mp hi).1
    refine ⟨?_, ?_⟩
    · rw [List.getElem?_append_left (by simpa using hlt), List.getElem?_map, hi]; rfl
    · rw [List.getElem?_append_left (by simp; omega)]
  have own : ∀ (i : Nat) k c, as[i]? = some (.o k c) → ∃ c', e'[i]? = some (.own true k c') ∧ σ'[i]? = (aS vs)[i]? ∧ l[i]? = some (.o k c') ∧ (k = true → c' = c) := fun i k c hi => by
    obtain ⟨b1, b2⟩ := base i _ hi
    obtain ⟨c', z1, z2, z3⟩ := sk.ek.at' i true k c b1 (.inl rfl)
    rw [b2] at z2
    refine ⟨c', z1, z2, ?_, z3⟩
    obtain ⟨a', y1, y2⟩ := h2 i _ hi
    rcases y2 with ⟨d, y, _⟩ | ⟨k1, c1, k2, c2, y, y3, rfl⟩
    · cases y
    · cases y
      rw [z1] at y3; cases y3
      exact y1
  have lown : ∀ (i : Nat) b k c', (aE l)[i]? = some (SS.own b k c') → b = true ∧ ∃ c, as[i]? = some (.o k c) ∧ e'[i]? = some (.own true k c') ∧ σ'[i]? = (aS vs)[i]? := fun i b k c' hi => by
    rw [List.getElem?_map] at hi
    cases q : l[i]? with
    | none => rw [q] at hi; cases hi
    | some a =>
      rw [q] at hi
      have hlt : i < as.length := by rw [← h1]; exact (List.getElem?_eq_some_iff.mp q).1
      obtain ⟨a', y1, y2⟩ := h2 i _ (List.getElem?_eq_getElem hlt)
      rw [q] at y1; cases y1
      rcases y2 with ⟨d, y, rfl⟩ | ⟨k1, c1, k2, c2, y, y3, rfl⟩
      · cases hi
      · cases hi
        have hi' : as[i]? = some (.o k c1) := by rw [List.getElem?_eq_getElem hlt, y]
        obtain ⟨c3, z1, z2, z3, _⟩ := own i k c1 hi'
        rw [q] at z3; cases z3
        exact ⟨rfl, c1, hi', z1, z2⟩
  have owl : ∀ a, Ow g (aE l) (aS vs) a → Ow g e' σ' a := fun a z => by
    rcases z with z | ⟨i, b, k, c, z1, z2⟩
    · exact .inl z
    · obtain ⟨rfl, c0, y1, y2, y3⟩ := lown i b k c z1
      exact .inr ⟨i, true, k, c, y2, by rw [y3]; exact z2⟩
  have owa : ∀ a, Ow g (aE as) (aS vs) a → Ow g e' σ' a := fun a z => by
    rcases z with z | ⟨i, b, k, c, z1, z2⟩
    · exact .inl z
    · rw [List.getElem?_map] at z1
      cases q : as[i]? with
      | none => rw [q] at z1; cases z1
      | some ar =>
        rw [q] at z1
        cases ar with
        | p d => cases z1
        | o k' c' =>
          cases z1
          obtain ⟨c2, y1, y2, _, _⟩ := own i _ _ q
          exact .inr ⟨i, true, k, c2, y1, by rw [y2]; exact z2⟩
  have ow3 : ∀ a, Ow g (aE l) (aS vs) a → Ow g (aE as) (aS vs) a := fun a z => by
    rcases z with z | ⟨i, b, k, c, z1, z2⟩
    · exact .inl z
    · obtain ⟨rfl, c0, y1, y2, y3⟩ := lown i b k c z1
      exact .inr ⟨i, true, k, c0, by rw [List.getElem?_map, y1]; rfl, z2⟩
  refine ⟨sk.vp.widen (fun a z => (ow2 a).mp z) (fun a z => .inl (ow3 a z)), ⟨by simp [h1, hl], sk.st.ex, fun i d hi => ?_, fun i b k c hi => ?_, fun i j b k c b' k' c' a hi hj s s' => ?_, sk.st.tok, sk.st.tbn⟩, ⟨h1, fun i a hi => ?_⟩, owl, owa⟩
  · rw [List.getElem?_map] at hi
    cases q : l[i]? with
    | none => rw [q] at hi; cases hi
    | some a =>
      rw [q] at hi
      have hlt : i < as.length := by rw [← h1]; exact (List.getElem?_eq_some_iff.mp q).1
      obtain ⟨a', y1, y2⟩ := h2 i _ (List.getElem?_eq_getElem hlt)
      rw [q] at y1; cases y1
      rcases y2 with ⟨d', y, rfl⟩ | ⟨k1, c1, k2, c2, y, y3, rfl⟩
      · cases hi
        obtain ⟨v, e1, e2⟩ := I.dat i d (by rw [List.getElem?_map, List.getElem?_eq_getElem hlt, y]; rfl)
        exact ⟨v, e1, Rp.mono sk.vp.b d v e2⟩
      · cases hi
  · obtain ⟨rfl, c0, y1, y2, y3⟩ := lown i b k c hi
    obtain ⟨a, e1, e2⟩ := sk.st.own i _ _ _ y2
    rw [y3] at e1
    exact ⟨a, e1, e2⟩
  · obtain ⟨_, c0, y1, y2, y3⟩ := lown i b k c hi
    obtain ⟨_, c1, z1, z2, z3⟩ := lown j b' k' c' hj
    rw [← y3] at s
    rw [← z3] at s'
    exact sk.st.inj i j true k c true k' c' a y2 z2 s s'
  · obtain ⟨a', y1, y2⟩ := h2 i a hi
    rcases y2 with ⟨d, rfl, rfl⟩ | ⟨k1, c1, k2, c2, rfl, y3, rfl⟩
    · exact ⟨_, y1, .same _⟩
    · obtain ⟨c3, z1, z2, z3, z4⟩ := own i k1 c1 hi
      rw [y1] at z3; cases z3
      cases k1 with
      | true => exact ⟨_, y1, by rw [z4 rfl]; exact .same _⟩
      | false => exact ⟨_, y1, .turn c1 c2⟩
abbrev envQ (qual : Str) : Str := qual ++ ".<locals>."
/-- a def whose body is checked computes runF -/
theorem fn_T {P : Program} {w : World} {mg : Str → Option Value} {base : Heap} {x qual : Str} {st : Stmt} {f : Addr} {fd : FuncData} {N ps : List Str} {k : Nat} {b : List S} {F : List Arg → RF} (Fn : Fun g.K x qual st f fd) (Sc : FnScope N ps (defScope st)) (hn : ps.length ≤ N.length)
    (hb : ∀ X W, X.prog = P → X.w = w → X.K = g.K → X.mg = mg → X.base = base → X.N = N → X.env.scope = defScope st → (∀ x, X.fn x = true) → (X.env.code = fd.code ∧ X.env.qual = envQ qual) → Good g (k + 1) X W → PassesOwn (model X.prog X.w) X.A X.env X.xe → Frm X → SSs g X W (defBody st) (exs ce b))
    (hF : ∀ as, F as = runF ce N.length b as) : FnR g.rp P w g.K mg base (L2.CX P w) (k + 1) f fd ps (spD g ps.length F) := by
  obtain ⟨oc, od, kV, doc, pm, an, cdv, ct, osl, rfl, lk, hcd⟩ := Fn.ex
  refine ⟨fun vs H Q E h => h.1, fun A outer s H args us vs Q E hgd hr0 e0 hbd rv h => ?_⟩
  refine LamX.run_ofS lk hcd Sc hr0 e0 hbd rv h.1 fun hr => ?_
  obtain ⟨hl, as, Hb, I, m⟩ := h
  have hal : as.length = vs.length := by simpa using I.len
  generalize hX : cxOf (L2.CX P w) P w g.K mg base N qual (defScope st) f cdv A outer s H E = X
  have tk : Takes X (fun cls d _ H => E cls d H) := by subst hX; exact takes_of rfl rfl rfl rfl
  have pw : PassesOwn (model X.prog X.w) X.A X.env X.xe := by subst hX; exact passes_of rfl
  have G : Good g (k + 1) X (fun cls d _ H => E cls d H) := by subst hX; exact ⟨rfl, Sc.nd, fun _ => rfl, tk, fun _ => hr, hr.units, hgd⟩
  have body := hb X (fun cls d _ H => E cls d H) (by subst hX; rfl) (by subst hX; rfl) (by subst hX; rfl) (by subst hX; rfl) (by subst hX; rfl) (by subst hX; rfl) (by subst hX; rfl) (by subst hX; exact fun _ => rfl) (by subst hX; exact ⟨rfl, rfl⟩) G pw (by subst hX; exact ⟨rfl, rfl, rfl⟩)
  refine ⟨_, pss_W X (defBody st), ?_⟩
  obtain ⟨I2, ow2⟩ := I.more (N.length - as.length)
  have hst : L2.start N vs = aS vs ++ List.replicate (N.length - as.length) none := by unfold L2.start; rw [hal]
  rw [hst]
  refine body (aE as ++ List.replicate (N.length - as.length) .un) _ Hb H _ I2 ?_
  rw [hF] at m
  unfold runF at m
  cases q : exs ce b (as.map Arg.ss ++ List.replicate (N.length - as.length) .un) with
  | no => rw [q] at m; exact (show False from m).elim
  | bk e' => rw [q] at m; exact (show False from m).elim
  | ct e' => rw [q] at m; exact (show False from m).elim
  | nx e' =>
    rw [q] at m
    unfold runO at m
    intro σ' Hb' H' sk
    cases q2 : backA as e' with
    | none => dsimp only at m; rw [q2] at m; exact m.elim
    | some l =>
      dsimp only at m
      rw [q2] at m
      obtain ⟨z1, z2, z3, z4, z5⟩ := back_ok I sk q2
      exact m .non Hb' H' z1 z2 z3 rfl
  | rz xd e' =>
    rw [q] at m
    unfold runO at m
    intro cls d σ' Hb' H' sk rx
    cases q2 : backA as e' with
    | none => dsimp only at m; rw [q2] at m; exact m.elim
    | some l =>
      dsimp only at m
      rw [q2] at m
      obtain ⟨z1, z2, z3, z4, z5⟩ := back_ok I sk q2
      exact m cls d Hb' H' z1 z2 z3 rx
  | rt r e' =>
    rw [q] at m
    unfold runO at m
    intro x σ' Hb' H' sk rv
    cases q2 : backA as e' with
    | none => dsimp only at m; rw [q2] at m; exact m.elim
    | some l =>
      dsimp only at m
      rw [q2] at m
      obtain ⟨z1, z2, z3, z4, z5⟩ := back_ok I sk q2
      refine m x Hb' H' z1 z2 z3 ?_
      cases r with
      | p d => exact rv
      | fr c =>
        obtain ⟨a, rfl, h0, h1, h2, h3⟩ := rv
        refine ⟨a, rfl, ?_, h1, h2, fun z => h3 (z4 a z)⟩
        rcases h0 with h0 | h0
        · exact h0
        · exact absurd (z5 a ((ow2 a).mp h0)) h3
end
end Vd
/-! Vd21: a text's defs, its law. -/
namespace Vd
open PySem PySem.Spec PyProof.Rows L2
/-- nothing but the written part is known -/
def g0 (K : PySem.W.Frag) : Gx := ⟨K, fun _ => 0, fun _ => 0, fun _ => .none, fun _ => "", fun _ => False, fun _ => True, false, fun _ _ _ _ _ _ => trivial⟩
section
variable {P : Program} {w : World} {mg : Str → Option Value} {base : Heap} {g : Gx} {ce : CE}
/-- the def named x computes F of n arguments, k calls deep -/
def FD (P : Program) (w : World) (mg : Str → Option Value) (base : Heap) (g : Gx) (x : Str) (F : List Arg → RF) (n k : Nat) : Prop :=
  ∃ addr fd ps, FnR g.rp P w g.K mg base (L2.CX P w) k addr fd ps (spD g ps.length F) ∧ mg x = some (.ref addr) ∧ PySem.W.keepIn g.K (.ref addr) = true ∧ Binds g.K fd ps [] ∧ ps.length = n
def fsAll (P : Program) (w : World) (mg : Str → Option Value) (base : Heap) (g : Gx) (ce : CE) (k : Nat) : List (Str × Nat × Nat) → Prop
  | [] => True
  | (x, f, n) :: l => (∃ k', k' ≤ k ∧ FD P w mg base g x (ce.fn f) n k') ∧ fsAll P w mg base g ce k l
def csAll (mg : Str → Option Value) (g : Gx) (ce : CE) : List (Str × Nat) → Prop
  | [] => True
  | (x, c) :: l => (∃ u v, mg x = some u ∧ RelV v u ∧ ∀ Hb, Rp g Hb (ce.con c) v) ∧ csAll mg g ce l
def bsAll (mg : Str → Option Value) : List Str → Prop
  | [] => True
  | x :: l => mg x = none ∧ bsAll mg l
theorem fsAll_of {k : Nat} : ∀ {l : List (Str × Nat × Nat)}, fsAll P w mg base g ce k l → ∀ x f n, (x, f, n) ∈ l → ∃ k', k' ≤ k ∧ FD P w mg base g x (ce.fn f) n k'
  | [], _, x, f, n, m => by cases m
  | (y, f', n') :: l, h, x, f, n, m => by
    rcases List.mem_cons.mp m with e | m
    · cases e; exact h.1
    · exact fsAll_of h.2 x f n m
theorem csAll_of : ∀ {l : List (Str × Nat)}, csAll mg g ce l → ∀ x c, (x, c) ∈ l → ∃ u v, mg x = some u ∧ RelV v u ∧ ∀ Hb, Rp g Hb (ce.con c) v
  | [], _, x, c, m => by cases m
  | (y, c') :: l, h, x, c, m => by
    rcases List.mem_cons.mp m with e | m
    · cases e; exact h.1
    · exact csAll_of h.2 x c m
theorem bsAll_of : ∀ {l : List Str}, bsAll mg l → ∀ x ∈ l, mg x = none
  | [], _, x, m => by cases m
  | y :: l, h, x, m => by
    rcases List.mem_cons.mp m with e | m
    · rw [e]; exact h.1
    · exact bsAll_of h.2 x m
/-- .. called with keywords -/
def FDK (P : Program) (w : World) (mg : Str → Option Value) (base : Heap) (g : Gx) (x : Str) (F : List Arg → RF) (ps : List Str) (i k : Nat) : Prop :=
  ∃ addr fd, FnR g.rp P w g.K mg base (L2.CX P w) k addr fd ps (spD g ps.length F) ∧ mg x = some (.ref addr) ∧ PySem.W.keepIn g.K (.ref addr) = true ∧ KB g.K fd ps i
def ksAll (P : Program) (w : World) (mg : Str → Option Value) (base : Heap) (g : Gx) (ce : CE) (k : Nat) : List (Str × Nat × List Str × Nat) → Prop
  | [] => True
  | (x, f, ps, i) :: l => (∃ k', k' ≤ k ∧ FDK P w mg base g x (ce.fn f) ps i k') ∧ ksAll P w mg base g ce k l
theorem ksAll_of {k : Nat} : ∀ {l : List (Str × Nat × List Str × Nat)}, ksAll P w mg base g ce k l → ∀ x f ps i, (x, f, ps, i) ∈ l → ∃ k', k' ≤ k ∧ FDK P w mg base g x (ce.fn f) ps i k'
  | [], _, x, f, ps, i, m => by cases m
  | (y, f', ps', i') :: l, h, x, f, ps, i, m => by
    rcases List.mem_cons.mp m with e | m
    · cases e; exact h.1
    · exact ksAll_of h.2 x f ps i m
/-- classes of exceptions, fields -/
structure ExF (P : Program) (w : World) (mg : Str → Option Value) (base : Heap) (g : Gx) (ce : CE) (k : Nat) (cf : Cf) : Prop where
  xs : ∀ x c, (x, c) ∈ cf.xs → (∃ v, ClsV v (g.cv c)) ∧ (mg x = some (g.cv c) ∨ (mg x = none ∧ bootBuiltins x = some (g.cv c) ∧ x ≠ "__name__"))
  cls : ClsF g.K g ce
  rs : ∀ x c, (x, c) ∈ cf.rs → RseF P w g.K mg base g ce x c ∧ 2 ≤ k
  fl : ∀ n x, (n, x) ∈ cf.fl → g.fl n = x
theorem exF_none {k : Nat} {cf : Cf} (h1 : cf.xs = [] := by rfl) (h2 : cf.rs = [] := by rfl) (h3 : cf.fl = [] := by rfl) (h4 : ∀ a b, ce.sub a b = none := by exact fun _ _ => rfl) (h5 : ∀ a, ce.flds a = [] := by exact fun _ => rfl) (h6 : ∀ a, ce.kno a = false := by exact fun _ => rfl) : ExF P w mg base g ce k cf where
  xs := fun _ _ m => by rw [h1] at m; cases m
  cls := ⟨fun a b r h => (by rw [h4] at h; cases h), fun a h => (by rw [h6] at h; cases h), fun a n h => (by rw [h5] at h; cases h)⟩
  rs := fun _ _ m => by rw [h2] at m; cases m
  fl := fun _ _ m => by rw [h3] at m; cases m
/-- .. where a lambda is handed to a def that tells what happened -/
def tsAll (P : Program) (w : World) (mg : Str → Option Value) (base : Heap) (g : Gx) (ce : CE) : List (Str × Nat) → Prop
  | [] => True
  | (x, f) :: l => TolF P w mg base g ce x f ∧ tsAll P w mg base g ce l
theorem tsAll_of : ∀ {l : List (Str × Nat)}, tsAll P w mg base g ce l → ∀ x f, (x, f) ∈ l → TolF P w mg base g ce x f
  | [], _, x, f, m => by cases m
  | (y, f') :: l, h, x, f, m => by
    rcases List.mem_cons.mp m with e | m
    · cases e; exact h.1
    · exact tsAll_of h.2 x f m
/-- the table of the def's own code object -/
def TabF (mg : Str → Option Value) (base : Heap) (g : Gx) (fd : FuncData) (qual : Str) : Prop :=
  g.rp = false ∧ ∃ (c P : Addr) (T : List (Addr × Str)), fd.code = .ref c ∧ LamX.TabB base mg c P ∧ (P, envQ qual ++ "<lambda>") ∈ T ∧ (∀ p ∈ T, p.1 = P → p.2 = envQ qual ++ "<lambda>") ∧ (∀ H, g.tok H ↔ LamX.Tabs T H) ∧ (∀ a, g.tb a ↔ ∃ p ∈ T, p.1 = a)
structure LamF (P : Program) (w : World) (mg : Str → Option Value) (base : Heap) (g : Gx) (ce : CE) (k : Nat) (cf : Cf) (fd : FuncData) (qual : Str) : Prop where
  lam : cf.ts ≠ [] → TabF mg base g fd qual ∧ 2 ≤ k
  ts : ∀ x f, (x, f) ∈ cf.ts → TolF P w mg base g ce x f
  fsl : ∀ x f n, (x, f, n) ∈ cf.fsl → ∃ k', k' + 2 ≤ k ∧ FD P w mg base g x (ce.fn f) n k'
  ksl : ∀ x f ps i, (x, f, ps, i) ∈ cf.ksl → ∃ k', k' + 2 ≤ k ∧ FDK P w mg base g x (ce.fn f) ps i k'
theorem lamF_none {k : Nat} {cf : Cf} {fd : FuncData} {qual : Str} (h1 : cf.ts = [] := by rfl) (h2 : cf.fsl = [] := by rfl) (h3 : cf.ksl = [] := by rfl) : LamF P w mg base g ce k cf fd qual where
  lam := fun z => absurd h1 z
  ts := fun _ _ m => by rw [h1] at m; cases m
  fsl := fun _ _ _ m => by rw [h2] at m; cases m
  ksl := fun _ _ _ _ m => by rw [h3] at m; cases m
theorem lamF_mk {k : Nat} {cf : Cf} {fd : FuncData} {qual : Str} (h1 : TabF mg base g fd qual) (hk : 2 ≤ k) (h2 : tsAll P w mg base g ce cf.ts) (h3 : fsAll P w mg base g ce (k - 2) cf.fsl) (h4 : ksAll P w mg base g ce (k - 2) cf.ksl) : LamF P w mg base g ce k cf fd qual where
  lam := fun _ => ⟨h1, hk⟩
  ts := tsAll_of h2
  fsl := fun x f n m => by
    obtain ⟨k', h, q⟩ := fsAll_of h3 x f n m
    exact ⟨k', by omega, q⟩
  ksl := fun x f ps i m => by
    obtain ⟨k', h, q⟩ := ksAll_of h4 x f ps i m
    exact ⟨k', by omega, q⟩
/-- what a def's own name adds: no more than it says -/
theorem def_ok {cf : Cf} {x qual : Str} {st : Stmt} {f : Addr} {fd : FuncData} {ps : List Str} {k : Nat} {b : List S} (Fn : Fun g.K x qual st f fd) (Sc : FnScope cf.N ps (defScope st)) (hn : ps.length ≤ cf.N.length) (hsc : cf.sc = defScope st) (hchk : chkSs b cf (defBody st) = true)
    (fs : fsAll P w mg base g ce k cf.fs) (cs : csAll mg g ce cf.cs) (bs : bsAll mg cf.bs) (ks : ksAll P w mg base g ce k cf.ks := by exact trivial) (exf : ExF P w mg base g ce k cf := by exact exF_none) (lam : LamF P w mg base g ce k cf fd qual := by exact lamF_none) (hrp : cf.rp = true → g.rp = true := by exact fun z => by first | rfl | (cases z; done)) : FnR g.rp P w g.K mg base (L2.CX P w) (k + 1) f fd ps (spD g ps.length (runF ce cf.N.length b)) := by
  refine fn_T Fn Sc hn (fun X W h1 h2 h3 h4 h5 h6 h7 h8 h9 G hp Fr => ?_) (fun _ => rfl)
  subst h1 h2 h4 h5
  refine chkSs_ok b cf _ (k + 1) X W hchk ⟨h6, by rw [h7, hsc], by rw [hsc]; exact Sc.kind, fun x _ _ => h8 x, fun x f n m => ?_, csAll_of cs, bsAll_of bs, fun _ => Nat.succ_pos k, exf.xs, by rw [h3]; exact exf.cls, fun x c m => by
    obtain ⟨q1, q2⟩ := exf.rs x c m
    rw [← h3] at q1
    exact ⟨q1, Nat.succ_le_succ q2⟩, exf.fl, fun x f ps i m => ?_, fun z => ?_, lam.ts, fun x f n m => ?_, fun x f ps i m => ?_, hrp⟩ G hp Fr
  rotate_left 2
  · obtain ⟨⟨q0, c, Pt, T, q1, q2, q3, q4, q5, q6⟩, hk⟩ := lam.lam z
    obtain ⟨e1, e2⟩ := h9
    exact ⟨⟨q0, c, Pt, T, e1.trans q1, q2, by rw [e2]; exact q3, by rw [e2]; exact q4, q5, q6⟩, Nat.succ_le_succ hk⟩
  · obtain ⟨k', hk, addr, fd, ps, q1, q2, q3, q4, q5⟩ := lam.fsl x f n m
    rw [← h3] at q1 q3 q4
    exact ⟨k', addr, fd, ps, q1, Nat.succ_le_succ hk, q2, q3, q4, q5⟩
  · obtain ⟨k', hk, addr, fd, q1, q2, q3, q4⟩ := lam.ksl x f ps i m
    rw [← h3] at q1 q3 q4
    exact ⟨k', addr, fd, q1, Nat.succ_le_succ hk, q2, q3, q4⟩
  rotate_left
  · obtain ⟨k', hk, addr, fd, q1, q2, q3, q4⟩ := ksAll_of ks x f ps i m
    rw [← h3] at q1 q3 q4
    exact ⟨k', addr, fd, q1, Nat.succ_le_succ hk, q2, q3, q4⟩
  obtain ⟨k', hk, addr, fd, ps, q1, q2, q3, q4, q5⟩ := fsAll_of fs x f n m
  rw [← h3] at q1 q3 q4
  exact ⟨k', addr, fd, ps, q1, Nat.succ_le_succ hk, q2, q3, q4, q5⟩
theorem fd_ok {cf : Cf} {x qual : Str} {st : Stmt} {f : Addr} {fd : FuncData} {ps : List Str} {k : Nat} {b : List S} (Fn : Fun g.K x qual st f fd) (hm : mg x = some (.ref f)) (hb : Binds g.K fd ps []) (Sc : FnScope cf.N ps (defScope st)) (hn : ps.length ≤ cf.N.length) (hsc : cf.sc = defScope st) (hchk : chkSs b cf (defBody st) = true)
    (fs : fsAll P w mg base g ce k cf.fs) (cs : csAll mg g ce cf.cs) (bs : bsAll mg cf.bs) (ks : ksAll P w mg base g ce k cf.ks := by exact trivial) (exf : ExF P w mg base g ce k cf := by exact exF_none) (lam : LamF P w mg base g ce k cf fd qual := by exact lamF_none) (hrp : cf.rp = true → g.rp = true := by exact fun z => by first | rfl | (cases z; done)) : FD P w mg base g x (runF ce cf.N.length b) ps.length (k + 1) :=
  ⟨f, fd, ps, def_ok Fn Sc hn hsc hchk fs cs bs ks exf lam hrp, hm, Fn.kp, hb, rfl⟩
theorem fdk_ok {cf : Cf} {x qual : Str} {st : Stmt} {f : Addr} {fd : FuncData} {ps : List Str} {k i : Nat} {b : List S} (Fn : Fun g.K x qual st f fd) (hm : mg x = some (.ref f)) (hb : KB g.K fd ps i) (Sc : FnScope cf.N ps (defScope st)) (hn : ps.length ≤ cf.N.length) (hsc : cf.sc = defScope st) (hchk : chkSs b cf (defBody st) = true)
    (fs : fsAll P w mg base g ce k cf.fs) (cs : csAll mg g ce cf.cs) (bs : bsAll mg cf.bs) (ks : ksAll P w mg base g ce k cf.ks := by exact trivial) (exf : ExF P w mg base g ce k cf := by exact exF_none) (lam : LamF P w mg base g ce k cf fd qual := by exact lamF_none) (hrp : cf.rp = true → g.rp = true := by exact fun z => by first | rfl | (cases z; done)) : FDK P w mg base g x (runF ce cf.N.length b) ps i (k + 1) :=
  ⟨f, fd, def_ok Fn Sc hn hsc hchk fs cs bs ks exf lam hrp, hm, Fn.kp, hb⟩
def litB : D → Value → Bool
  | .int i, .int j _ => decide (i = j)
  | .str l, .str s _ => decide (sT l = s) && decide (l.length ≤ line)
  | _, _ => false
def litsB : List D → List Value → Bool
  | [], [] => true
  | d :: l, v :: vs => litB d v && litsB l vs
  | _, _ => false
theorem lit_ok {d : D} {v : Value} (h : litB d v = true) : ∃ x, RelV x v ∧ ∀ Hb, Rp g Hb d x := by
  cases d <;> cases v <;> first | (cases h; done) | skip
  · exact ⟨.int _, ⟨_, rfl⟩, fun Hb => by rw [of_decide_eq_true h]; rfl⟩
  · unfold litB at h
    rw [Bool.and_eq_true, decide_eq_true_eq, decide_eq_true_eq] at h
    exact ⟨.str _, ⟨_, rfl⟩, fun Hb => ⟨by rw [h.1], by rw [← line_eq]; exact h.2⟩⟩
theorem lits_ok : ∀ {l : List D} {vs : List Value}, litsB l vs = true → ∃ xs, Vals xs vs ∧ ∀ Hb, Rps g Hb l xs
  | [], [], _ => ⟨[], .nil, fun _ => rfl⟩
  | [], _ :: _, h => by cases h
  | _ :: _, [], h => by cases h
  | d :: l, v :: vs, h => by
    unfold litsB at h
    rw [Bool.and_eq_true] at h
    obtain ⟨x, h1, h2⟩ := lit_ok (g := g) h.1
    obtain ⟨xs, h3, h4⟩ := lits_ok h.2
    exact ⟨x :: xs, .cons h1 h3, fun Hb => ⟨x, xs, rfl, h2 Hb, h4 Hb⟩⟩
theorem litsB_len : ∀ {l : List D} {vs : List Value}, litsB l vs = true → vs.length = l.length
  | [], [], _ => rfl
  | [], _ :: _, h => by cases h
  | _ :: _, [], h => by cases h
  | d :: l, v :: vs, h => by
    unfold litsB at h
    rw [Bool.and_eq_true] at h
    simp [litsB_len h.2]
theorem con_tup {l : List D} {a : Addr} {od : Option Addr} {its : Array Value} {n : Nat} {sl : Array (Option Value)} {x : Str} {c : Nat} (h : mg x = some (.ref a)) (lk : g.K.lookup a = some ⟨.type "tuple", od, .seq its n, sl⟩) (hl : litsB l its.toList = true) (hz : l.length ≤ line) (hc : ce.con c = .tup l) : ∃ u v, mg x = some u ∧ RelV v u ∧ ∀ Hb, Rp g Hb (ce.con c) v := by
  obtain ⟨xs, h1, h2⟩ := lits_ok (g := g) hl
  refine ⟨.ref a, .ref a, h, rfl, fun Hb => ?_⟩
  rw [hc]
  refine ⟨a, xs, rfl, .inr ⟨_, its, n, lk, rfl, rfl, ?_, h1⟩, h2 Hb⟩
  have := litsB_len hl
  rw [← line_eq]
  rw [Array.length_toList] at this
  omega
theorem con_int {i : Int} {t : Tok} {x : Str} {c : Nat} (h : mg x = some (.int i t)) (hc : ce.con c = .int i) : ∃ u v, mg x = some u ∧ RelV v u ∧ ∀ Hb, Rp g Hb (ce.con c) v := ⟨_, .int i, h, ⟨t, rfl⟩, fun Hb => by rw [hc]; rfl⟩
theorem con_str {l : List Nat} {s : Str} {t : Tok} {x : Str} {c : Nat} (h : mg x = some (.str s t)) (hs : sT l = s) (hl : l.length ≤ line) (hc : ce.con c = .str l) : ∃ u v, mg x = some u ∧ RelV v u ∧ ∀ Hb, Rp g Hb (ce.con c) v := ⟨_, .str s, h, ⟨t, rfl⟩, fun Hb => by rw [hc]; exact ⟨by rw [hs], by rw [← line_eq]; exact hl⟩⟩
end
theorem ints_rps {g : Gx} {H : Hp} : ∀ ns : List Int, Rps g H (ns.map D.int) (ns.map V.int)
  | [] => rfl
  | n :: ns => ⟨_, _, rfl, rfl, ints_rps ns⟩
/-- the law's promise, from what it computes -/
theorem law_sp {K : PySem.W.Frag} {F : List Arg → RF} (n : Nat) (hF : ∀ ns : List Int, ns.length ≤ n → ∃ l, F [.p (.lst (ns.map D.int))] = .ok (.p (.bl true)) l) {H : Hp} {a : Addr} {ns : List Int} (hl : ns.length ≤ n) (hS : SqL K H a (ns.map V.int)) :
    spD (g0 K) 1 F [.ref a] H (fun v _ => v = .bl true) (fun _ _ _ => False) := by
  obtain ⟨l, e⟩ := hF ns hl
  refine ⟨rfl, [.p (.lst (ns.map D.int))], H, ⟨rfl, .refl H, fun i d h => ?_, fun i b k c h => ?_, fun i j b k c b' k' c' a h => ?_, trivial, fun a h => h.elim⟩, ?_⟩
  · match i, h with
    | 0, h => cases h; exact ⟨_, rfl, a, _, rfl, hS, ints_rps ns⟩
    | i + 1, h => simp [aE] at h
  · match i, h with
    | 0, h => cases h
    | i + 1, h => simp [aE] at h
  · match i, h with
    | 0, h => cases h
    | i + 1, h => simp [aE] at h
  · rw [e]
    exact fun x Hb' H' _ _ _ rv => rv
theorem cx_no {P : Program} {w : World} {H : Hp} {s : Shared} {e : Value} {s' : Shared} (h : L2.CX P w [] H s (fun _ _ _ => False) e s') : False := by
  obtain ⟨a, B, H', cls, d, _, _, _, _, _, _, _, z⟩ := h
  exact z
end Vd
/-! Vf2: a def that is handed a lambda and tells what was raised. -/
namespace Vd
open PySem PySem.Spec PyProof.Rows L2 LamX
/-- found = [] / try: deed() / except C as error: found = [t] / return found -/
def toldF (ce : CE) (C : Nat) (t : T) : Option XD → Option OC
  | none => some (.ol [])
  | some x => match subAny ce.sub x.c [C] with
    | some true => match ev ce (.lst [t]) [.un, .un, .dat (.exc x.c x.fs)] with
      | .ok (.fr c) [_, .un, _] => some c
      | _ => none
    | _ => none
section
variable {g : Gx} {kk : Nat} {X : Cx} {W : WX} {σ : L2.St} {Hb H Hb1 H1 : Hp} {e : VE}
theorem un_at {n i : Nat} {s : SS} (h : (List.replicate n SS.un)[i]? = some s) : s = .un := by
  rw [List.getElem?_replicate] at h
  split at h
  · cases h; rfl
  · cases h
/-- nothing is known of the slots -/
theorem VS.none (I : VS g Hb e σ H) {n : Nat} {τ : L2.St} (hn : τ.length = n) : VS g Hb (List.replicate n .un) τ H where
  len := by simp [hn]
  ex := I.ex
  dat := fun i d h => by cases un_at h
  own := fun i b k c h => by cases un_at h
  inj := fun i j b k c b' k' c' a h => by cases un_at h
  tok := I.tok
  tbn := I.tbn
theorem ow_none {n : Nat} {τ : L2.St} {a : Addr} (h : Ow g (List.replicate n .un) τ a) : g.tb a := by
  rcases h with h | ⟨i, b, k, c, h, _⟩
  · exact h
  · cases un_at h
/-- what a frame of which nothing was known did, seen from another frame -/
theorem PK.beside (I : VS g Hb e σ H) {n : Nat} {τ τ' : L2.St} {e' : VE} (s : SK g τ Hb H (List.replicate n .un) τ' Hb1 H1 e') : PK g σ Hb H e Hb1 H1 e := by
  have nt : ∀ {a : Addr} {o : HO}, H a = some o → (∀ ps, o ≠ .tbl ps) → ¬ g.tb a := fun {a o} h n z => by
    obtain ⟨ps, q⟩ := (I.tbn a z).2
    rw [h] at q; cases q
    exact n ps rfl
  refine ⟨⟨s.vp.b, fun a o h z => s.vp.k a o h fun y => z (.inl (ow_none y)), fun a o h => ?_, fun _ h => .inl h, s.vp.t, s.vp.f⟩, ⟨I.len, s.st.ex, fun i d h => ?_, fun i b k c h => ?_, I.inj, s.st.tok, s.st.tbn⟩, .refl e⟩
  · rcases s.vp.n a o h with h | h | h
    · exact .inl h
    · exact .inr (.inl h)
    · exact .inr (.inr (.inl (ow_none h)))
  · obtain ⟨v, q1, q2⟩ := I.dat i d h
    exact ⟨v, q1, Rp.mono s.vp.b d v q2⟩
  · obtain ⟨a, q1, q2, q3⟩ := I.own i b k c h
    obtain ⟨o, ho, n1, n2⟩ := q3.there
    refine ⟨a, q1, ?_, q3.mono s.vp.b fun o' h' => ?_⟩
    · cases z : Hb1 a with
      | none => rfl
      | some o' =>
        rcases s.vp.n a o' z with z | z | z
        · rw [q2] at z; cases z
        · rw [ho] at z; cases z
        · exact absurd (ow_none z) (nt ho n1)
    · rw [ho] at h'; cases h'
      exact s.vp.k a o ho fun z => nt ho n1 (ow_none z)
/-- the making of a lambda -/
theorem PK.lam (I : VS g Hb e σ H) {P : Addr} {T : List (Addr × Str)} (bt : Bt P H H1) (tb : g.tb P) (h5 : ∀ H, g.tok H ↔ Tabs T H) (h6 : ∀ a, g.tb a ↔ ∃ p ∈ T, p.1 = a) (hT : Tabs T H1) : PK g σ Hb H e Hb H1 e := by
  have nP : ∀ {a : Addr} {o : HO}, H a = some o → (∀ ps, o ≠ .tbl ps) → a ≠ P := fun {a o} h n z => by
    obtain ⟨ps, q⟩ := (I.tbn P tb).2
    rw [z, q] at h; cases h
    exact n ps rfl
  refine ⟨⟨.refl _, fun a o h z => bt.k a o (fun y => z (.inl (y ▸ tb))) h, fun _ _ h => .inl h, fun _ h => .inl h, bt.t, fun a o u h => bt.k a _ (nP h (fun _ z => by cases z)) h⟩, ⟨I.len, fun a o h => bt.k a o (fun y => ?_) (I.ex a o h), I.dat, fun i b k c h => ?_, I.inj, (h5 H1).mpr hT, fun a h => ⟨(I.tbn a h).1, ?_⟩⟩, .refl e⟩
  · rw [y, (I.tbn P tb).1] at h; cases h
  · obtain ⟨a, q1, q2, q3⟩ := I.own i b k c h
    obtain ⟨o, ho, n1, n2⟩ := q3.there
    refine ⟨a, q1, q2, q3.mono (.refl _) fun o' h' => bt.k a o' (nP ho n1) h'⟩
  · obtain ⟨p, hp, rfl⟩ := (h6 a).mp h
    obtain ⟨ps, q, _⟩ := hT p hp
    exact ⟨ps, q⟩
theorem takes_len (tk : Takes X W) : Takes X (fun cls d σ H => σ.length = X.N.length → W cls d σ H) := fun u s' ⟨a, B, sI, pins, σ, H, cls, d, e, I, nb, up, sky, na, os, ag, w⟩ =>
  tk u s' ⟨a, B, sI, pins, σ, H, cls, d, e, I, nb, up, sky, na, os, ag, w I.len⟩
end
end Vd
/-! Vf3: .. called. -/
namespace Vd
open PySem PySem.Spec PyProof.Rows L2 LamX
section
variable {P : Program} {w : World} {mg : Str → Option Value} {base : Heap} {g : Gx} {ce ceT : CE}
theorem la_hdb {x : Str} (h : plainN x = true) : (x == ("__debug__" : Str)) = false ∧ (x == ("__classdict__" : Str)) = false := ⟨(plainN_of h).1, (plainN_of h).2.1⟩
theorem tol_ok {x a y er : Str} {f C : Nat} {te : T} {st : Stmt} {gA : Addr} {fd : FuncData} {cfT : Cf} {k0 : Nat} {hd : ExceptHandler} {su : List Stmt} {p1 p2 p3 p4 p5 p6 p7 p8 p9 : Pos}
    (Fn : Fun g.K x x st gA fd) (hm : mg x = some (.ref gA)) (hb : Binds g.K fd [a] []) (Sc : FnScope [a, y, er] [a] (defScope st)) (hx : plainN x = true) (ha : plainN a = true) (hy : plainN y = true) (va : visB (defScope st) a = true) (ly : (defScope st).names.lookup y = some .local)
    (hbd : defBody st = [.Assign [.Name y p1] (.List [] p2) p3, .Try [.Expr (.Call (.Name a p4) [] [] p5) p6] [hd] [] [] p7, .Return (some (.Name y p8)) p9])
    (hN : cfT.N = [a, y, er]) (hsc : cfT.sc = defScope st) (hfs : cfT.fs = []) (hks : cfT.ks = []) (hcs : cfT.cs = []) (hbs : cfT.bs = []) (hrs : cfT.rs = []) (hts : cfT.ts = []) (hfl : cfT.fsl = []) (hkl : cfT.ksl = []) (hrpT : cfT.rp = false)
    (hh : hdL cfT [C] (some 2) hd = some su) (hsu : chkSs [.set 1 (.lst [te])] cfT.heat su = true) (exf : ExF P w mg base g ceT k0 cfT) (htl : ce.tl f = toldF ceT C te) : TolF P w mg base g ce x f := by
  intro X W kk body sc p lp pos t e1 e2 e3 e4 G hk hg ⟨l0, c, Pt, T, l1, l2, l3, l4, l5, l6⟩ L hbody e σ Hb H Q I h
  subst e1 e2 e3 e4
  have hK := G.hK
  rw [ev] at h
  obtain ⟨oc, od, kV, doc, pm, an, cdv, ct, osl, rfl, lk, hcd⟩ := Fn.ex
  have kp := Fn.kp
  rw [← hK] at lk hcd hb kp
  intro pins s J
  have hT : Tabs T H := (l5 H).mp I.tok
  have tbP : g.tb Pt := (l6 Pt).mpr ⟨_, l3, rfl⟩
  refine wpAny_Call_Name_kw (ld_glob J hg hm ?_ (la_hdb hx).1)
  refine PySem.W.callWith_K (h₀ := X.base) J.ok.mod.kin kp ?_ (by rfl) (by rfl)
  show wpAny _ _ (spliced ((false, eval (.Lambda noPar body sc lp) X.env) :: backTo pos (starEach [] X.env))) _ _ s
  refine Calls.spliced_cons (la_make J l2 l1 l3 l4 hT rfl (L.has J.ok) fun f' c' pm' ctv H1 s' I1 bt T1 hf hfn hfr hco => ?_)
  refine Calls.spliced_nil ⟨I1.kIn, ?_⟩
  have pk1 : PK g σ Hb H e Hb H1 e := PK.lam I bt tbP l5 l6 T1
  have rm : Room (kk - 3 + 1 + 1) X.A := (G.rm (by omega)).mono (by omega)
  have rc : codeAny (model X.prog X.w) X.A (.call (.ref gA) ⟨[.ref f'], []⟩) (CR (L2.CX X.prog X.w) X.stack X.prog X.w H1 s' Q (fun _ _ _ => False)) s' := by
    refine run_ofS (N := [a, y, er]) (ps := [a]) (us := [.ref f']) (vs := [.ref f']) lk hcd Sc rm I1.env0 (hb s' [.ref f'] I1.kIn rfl) (.cons rfl .nil) rfl fun hr' => ?_
    generalize hXt : cxOf (L2.CX X.prog X.w) X.prog X.w X.K X.mg X.base [a, y, er] x (defScope st) gA cdv X.A X.stack s' H1 (fun _ _ _ => False) = Xt
    have Gt : Good g 1 Xt (fun _ _ _ _ => False) := by
      subst hXt
      exact ⟨hK, Sc.nd, fun _ => rfl, L2.takes0, fun _ => hr'.mono (by omega), hr'.units, fun z => by rw [l0] at z; cases z⟩
    have Ft : Fit cfT g ceT 1 Xt := by
      subst hXt
      exact {
        N := hN.symm
        sc := hsc.symm
        kind := by rw [hsc]; exact Sc.kind
        fn := fun _ _ _ => rfl
        fs := fun _ _ _ m => by rw [hfs] at m; cases m
        cs := fun _ _ m => by rw [hcs] at m; cases m
        bs := fun _ m => by rw [hbs] at m; cases m
        hot := fun _ => Nat.one_pos
        xs := exf.xs
        cls := by
          show ClsF X.K g ceT
          rw [hK]; exact exf.cls
        rs := fun _ _ m => by rw [hrs] at m; cases m
        fl := exf.fl
        ks := fun _ _ _ _ m => by rw [hks] at m; cases m
        lam := fun z => absurd hts z
        ts := fun _ _ m => by rw [hts] at m; cases m
        fsl := fun _ _ _ m => by rw [hfl] at m; cases m
        ksl := fun _ _ _ _ m => by rw [hkl] at m; cases m
        rp := fun z => by rw [hrpT] at z; cases z }
    have Fr : Frm Xt := by subst hXt; exact ⟨rfl, rfl, rfl⟩
    obtain ⟨C', eC, cl⟩ := hdL_of (g := g) (ce := ceT) Ft hh
    cases eC
    have hc1 := cl (exs ceT [.set 1 (.lst [te])]) fun a' => chkSs_ok _ cfT.heat su 0 (hotCx Xt a') _ hsu (Ft.heat a') (Gt.heat a') PassesOwn.never ⟨Fr.st, Fr.fr, Fr.ex⟩
    obtain ⟨su', su1, su2⟩ := hc1.cat Gt
    have HK : Xt.K = X.K := by subst hXt; rfl
    have HN : Xt.N = [a, y, er] := by subst hXt; rfl
    have HS : Xt.env.scope = defScope st := by subst hXt; rfl
    have HF : Xt.fn y = true := by subst hXt; rfl
    let q : Str := X.env.qual ++ "<lambda>"
    let TB : WX → TS := fun W' D τ H2 => ∃ Ech : XK, (∀ cls d σ' H', Ech cls d H' → σ'.length = Xt.N.length → W' cls d σ' H') ∧ τ[0]? = some (some (.ref f')) ∧ H2 c' = some (CodeO c' q) ∧ ∃ (e : VE) (Hb : Hp), VS g Hb e σ H2 ∧ CA (PV g σ) g (fun cls d _ H' => Ech cls d H') σ Hb H2 e (ev ce t e) (fun _ H' => D.nx τ H')
    have hB : ∀ (W' : WX) (pn : List (Addr × Obj)) (xe : Value → Shared → Prop), Takes (Xt.tr pn xe) W' → PassesOwn (model Xt.prog Xt.w) Xt.A Xt.env xe → PSs (Xt.tr pn xe) [.Expr (.Call (.Name a p4) [] [] p5) p6] (TB W') := by
      intro W' pn xe tk _
      refine ⟨fun pinsZ sZ σZ HZ D IZ hz => ?_⟩
      obtain ⟨Ech, hW, h1, h2, e0, Hb0, I0, hca⟩ := hz
      subst hXt
      have act := pe_act (i := 0) (p1 := p4) (p2 := p5) (k := kk - 3) I1 L hf hfn hfr rfl (takes_len tk) (E := Ech) (fun cls d σ' H' z hl => hW cls d σ' H' z hl) hr'
        (tb := fun σ' H' Q' => ∃ (e : VE) (Hb : Hp), VS g Hb e σ' H' ∧ CA (PV g σ') g (fun cls d _ H => Ech cls d H) σ' Hb H' e (ev ce t e) Q')
        (fun A outer s H hr2 => ⟨fun pins s σ' H' Q' J' z => by
          obtain ⟨e, Hb, z1, z2⟩ := z
          exact hbody A outer _ _ Ech f' c' hr2 e σ' Hb H' Q' z1 z2 pins s J'⟩) rfl (vis_of va) (la_hdb ha).1 (la_hdb ha).2
      exact (pss_one (ps_expr (pos := p6) act)).run pinsZ sZ σZ HZ D IZ ⟨h1, h2, e0, Hb0, I0, hca⟩
    rw [hbd]
    refine ⟨_, pss_cons (ps_set (i := 1) (by rw [HN]; exact Sc.nd) (by rw [HN]; rfl) (by rw [HS]; exact .inl ly) (pe_lst pa_nil) rfl (.inl HF)) (pss_cons (ps_catch Fr.st Fr.fr Fr.ex L2.takes0 hB (su2 .nil)) (pss_one (ps_ret (pe_var (i := 1) (by rw [HN]; rfl) (by rw [HS]; exact .inl ly) (la_hdb hy).1 (la_hdb hy).2)))), ?_⟩
    refine ⟨by simp, fun pL npL => ?_⟩
    let D0 : Ends := { nx := fun _ H' => Q .non H', rt := Q }
    let D1 : Ends := { D0 with nx := tRet (tVar 1) D0 }
    let Wt : WX := wCat Xt.K (fun _ _ _ _ => False) D1 [(g.cv C, some 2, fun a _ _ => tWSs (hotCx Xt a) su')]
    show TB Wt D1 _ _
    have npLo : ¬ Ow g e σ pL := not_ow pk1.st npL
    have nbL : Hb pL = none := pk1.st.ex.back npL
    have pkT : PK g σ Hb H1 e Hb (upd H1 pL (.lst [])) e := .temp pk1.st npL
    have n0 : H pL = none := pk1.vp.t pL npL
    refine ⟨fun cls d H' => ∀ σ', σ'.length = Xt.N.length → Wt cls d σ' H', fun cls d σ' H' z hl => z σ' hl, rfl, by rw [upd_ne (ne_of_none hco npL)]; exact hco, e, Hb, pkT.st, ?_⟩
    cases qv : ev ce t e with
    | no => rw [qv] at h; exact h
    | ok v e' =>
      rw [qv] at h
      have h' : CA (PV g σ) g W σ Hb H e (.ok (.fr (.ol [])) e') Q := by
        unfold toldR at h
        rw [htl] at h
        exact h
      intro x' Hb' H' pk _
      refine ⟨.ref pL, rfl, h' (.ref pL) Hb' H' (pk1.trans (pkT.trans pk)) ⟨pL, rfl, n0, ?_, ⟨[], pk.vp.k pL _ upd_same npLo, rfl⟩, fun z => npLo (pk.ek.ow z)⟩⟩
      cases z : Hb' pL with
      | none => rfl
      | some o =>
        rcases pk.vp.n pL o z with z | z | z
        · rw [nbL] at z; cases z
        · rw [upd_same] at z; cases z
        · exact absurd z npLo
    | rz xd e' =>
      rw [qv] at h
      cases ht : ce.tl f (some xd) with
      | none =>
        unfold toldR at h
        dsimp only at h
        rw [ht] at h
        exact (show False from h).elim
      | some c0 =>
        have h' : CA (PV g σ) g W σ Hb H e (.ok (.fr c0) e') Q := by
          unfold toldR at h
          dsimp only at h
          rw [ht] at h
          exact h
        rw [htl] at ht
        unfold toldF at ht
        dsimp only at ht
        split at ht
        · rename_i hs
          split at ht
          · rename_i c1 s1 s2 hev
            cases ht
            intro cls d Hb' H' pk rx σ' hl
            have hsub : ceT.sub xd.c C = some true := by
              unfold subAny at hs
              cases q1 : ceT.sub xd.c C with
              | none => rw [q1] at hs; cases hs
              | some b1 =>
                cases b1 with
                | true => rfl
                | false => rw [q1] at hs; cases hs
            refine ⟨true, ?_, fun _ a' na => ?_, fun z => by cases z⟩
            · rw [rx.1]
              exact (Ft.cls.sub _ _ _ hsub).1
            · rw [HN] at hl
              have hev2 : exs ceT [.set 1 (.lst [te])] [.un, .un, .dat (.exc xd.c xd.fs)] = .nx [s1, .own false false c0, s2] := by
                simp only [exs, ex, hev, R.out_ok, setV, putS, SS.free, List.getElem?_cons_succ, List.getElem?_cons_zero, Option.elim, if_pos, ofX_some, Out.then_nx]
                rfl
              have hco0 : CO g (fun _ _ _ _ => False) D1 σ' Hb' H' (List.replicate 3 .un) (hnd (some 2) xd (List.replicate 3 .un) (exs ceT [.set 1 (.lst [te])])) := by
                show CO g _ D1 σ' Hb' H' _ ((exs ceT [.set 1 (.lst [te])] [.un, .un, .dat (.exc xd.c xd.fs)]).gone 2)
                rw [hev2]
                intro σ'' Hb'' H'' sk
                obtain ⟨aL, q1, q2, q3⟩ := sk.st.own 1 false false c0 rfl
                obtain ⟨o, ho, n1, n2⟩ := q3.there
                have fr : H' aL = none := by
                  rcases sk.vp.s aL (.inr ⟨1, false, false, c0, rfl, q1⟩) with z | z
                  · obtain ⟨ps, y⟩ := (sk.st.tbn aL (ow_none z)).2
                    rw [ho] at y; cases y
                    exact absurd rfl (n1 ps)
                  · exact z
                refine ⟨.ref aL, q1, h' (.ref aL) Hb'' H'' (pk1.trans (pkT.trans (pk.trans (PK.beside pk.st sk)))) ⟨aL, rfl, (pk1.trans (pkT.trans pk)).vp.t aL fr, q2, q3, fun z => ?_⟩⟩
                obtain ⟨o', ho'⟩ := z.there pk.st
                rw [fr] at ho'; cases ho'
              exact hnd_ok su1 hco0 (SK.refl (VS.none pk.st hl)) rx a' na
          · cases ht
        · cases ht
  refine wpAny_call (codeAny_mono rc fun r s2 hq => ?_)
  cases r with
  | error e =>
    obtain ⟨_, _, _, _, _, _, _, _, _, _, _, _, z⟩ := hq
    exact z.elim
  | ok fl =>
    cases fl with
    | ret u => exact I1.after hq
    | next => exact False.elim hq
    | brk => exact False.elim hq
    | cont => exact False.elim hq
end
end Vd
/-! Ve5: what the written part says of classes of exceptions, asked by a program. -/
namespace Vd
open PySem PySem.Spec PyProof.Rows L2
/-- classes by number (their addresses, their values), fields by number -/
def gE (K : PySem.W.Frag) (cs : List Addr) (vs : List Value) (ns : List Str) : Gx := ⟨K, fun n => cs.getD n 0, fun _ => 0, fun n => vs.getD n .none, fun n => ns.getD n "", fun _ => False, fun _ => True, false, fun _ _ _ _ _ _ => trivial⟩
def excOB (K : PySem.W.Frag) (C : Addr) : Bool := match K.lookup C with
  | some ⟨.type "type", _, .cls cd, sl⟩ => (match cd.mro, sl.toList with
    | .ref C' :: bm, [_, _, _, _, some (.builtin n), _] => C' == C && n == "ValueError.__new__" && !cd.hasDel && cd.hasDict && PySem.HandSPX.refsVE bm
    | _, _ => false)
  | _ => false
theorem excOB_ok {K : PySem.W.Frag} {C : Addr} (q : excOB K C = true) : ∃ nm q N bs bm sn sub ab col dd k0 k1 k2 k3 k5, K.lookup C = some (excClassObj nm q C N bs bm true sn sub ab col dd k0 k1 k2 k3 k5 "ValueError.__new__") ∧ PySem.HandSPX.refsVE bm = true := by
  unfold excOB at q
  split at q
  · rename_i dd cd sl ho
    split at q
    · rename_i C' bm k0 k1 k2 k3 n k5 hm hs
      simp only [Bool.and_eq_true, beq_iff_eq, Bool.not_eq_true'] at q
      obtain ⟨⟨⟨⟨e1, e2⟩, e3⟩, e4⟩, e5⟩ := q
      subst e1 e2
      obtain ⟨nm, bs, mro, ns, qn, hd, sn, sub, ab, col, del⟩ := cd
      dsimp only at hm e3 e4
      subst hm e3 e4
      have hsl : sl = #[k0, k1, k2, k3, some (.builtin "ValueError.__new__"), k5] := by
        obtain ⟨l⟩ := sl
        simp only at hs
        rw [hs]
      subst hsl
      exact ⟨nm, qn, ns, bs, bm, sn, sub, ab, col, dd, k0, k1, k2, k3, k5, ho, e5⟩
    · cases q
  · cases q
/-- all that is asked of one own class -/
def errB (K : PySem.W.Frag) (C : Addr) : Bool :=
  excOB K C && decide (PySem.W.findIn K (.ref C) "__setattr__" = some (some (.builtin "object.__setattr__"))) && decide (PySem.W.subIn K (.ref C) (.type "BaseException") = some true) && decide (PySem.W.typeIn K (.ref C) = some (.type "type")) && PySem.W.keepIn K (.ref C)
    && decide (PySem.W.findIn K (.ref C) "__getattribute__" = some (some (.builtin "BaseException.__getattribute__"))) && decide (PySem.W.findIn K (.ref C) "__getattr__" = some none) && PySem.W.hasDictIn K C
    && decide (PySem.W.findIn K (.ref C) "__class__" = some (some (.builtin "object.__class__"))) && decide (PySem.W.mroIn K C (.type "object") = some true) && (PySem.W.clsIn K C).isSome
/-- .. of __class__ itself -/
def clsB (K : PySem.W.Frag) : Bool := decide (PySem.W.specialIn K (.builtin "object.__class__") "__get__" = some (some (.builtin "getset_descriptor.__get__"))) && decide (PySem.W.takesIn K (.builtin "object.__class__") = some true)
structure ErrC (K : PySem.W.Frag) (C : Addr) : Prop where
  ox : OexC K C
  xf : XfC K C
  ek : ExcK K C
theorem errB_ok {K : PySem.W.Frag} {C : Addr} (h : errB K C = true) (h2 : clsB K = true) : ErrC K C := by
  unfold errB at h
  unfold clsB at h2
  simp only [Bool.and_eq_true, decide_eq_true_eq] at h h2
  obtain ⟨⟨⟨⟨⟨⟨⟨⟨⟨⟨a1, a2⟩, a3⟩, a4⟩, a5⟩, a6⟩, a7⟩, a8⟩, a9⟩, a10⟩, a11⟩ := h
  exact ⟨⟨excOB_ok a1, a2, a3, a4, a5⟩, ⟨a6, a7, a3, a8⟩, ⟨a11, a6, a7, a3, a9, h2.1, h2.2, a10⟩⟩
/-- .. for raising it: super() -/
def supB (K : PySem.W.Frag) (C : Addr) (ns : List Str) : Bool :=
  decide (PySem.W.ks_superIn K C C "__init__" = some (some (.builtin "ValueError.__init__"))) && decide (PySem.W.mroIn K C (.ref C) = some true) && decide (PySem.W.subIn K (.ref C) (.type "ValueError") = some true) && decide (PySem.W.nsIn K cStatics "thirdparty.any" = some none)
    && ns.all fun n => decide (PySem.W.findIn K (.ref C) n = some none)
theorem supB_ok {K : PySem.W.Frag} {C : Addr} {ns : List Str} (h : supB K C ns = true) (E : ErrC K C) : SupC K C ∧ ∀ n ∈ ns, PySem.W.findIn K (.ref C) n = some none := by
  unfold supB at h
  simp only [Bool.and_eq_true, decide_eq_true_eq, List.all_eq_true] at h
  obtain ⟨⟨⟨⟨a1, a2⟩, a3⟩, a4⟩, a5⟩ := h
  exact ⟨⟨E.ox, a1, a2, a3, a4⟩, a5⟩
/-- who is whose subclass, as told by a table -/
def subT (tab : List (List Bool)) (c k : Nat) : Option Bool := (tab[c]?).bind fun r => r[k]?
def subB (K : PySem.W.Frag) (vs : List Value) (tab : List (List Bool)) : Bool :=
  (List.range tab.length).all fun c => (List.range vs.length).all fun k => match subT tab c k with
    | some b => decide (PySem.W.exmOne K (vs.getD c .none) (vs.getD k .none) = some b) && decide (PySem.W.kitOne K (vs.getD c .none) (vs.getD k .none) = some b)
    | none => true
def noB (K : PySem.W.Frag) (vs : List Value) : Bool := vs.all fun v => ["NoneType", "bool", "int", "str", "tuple", "list", "dict"].all fun t => decide (PySem.W.kitOne K (.type t) v = some false)
/-- the rows of the table are no longer than the classes; each row is an own class -/
theorem clsF_of {K : PySem.W.Frag} {ce : CE} {cs : List Addr} {vs : List Value} {ns : List Str} {tab : List (List Bool)} {fls : List (List Nat)} {m : Nat} (hm : m = vs.length) (h1 : ce.sub = subT tab) (h2 : ce.flds = fun c => fls.getD c []) (h3 : ce.kno = fun c => decide (c < m)) (ht : tab.all (fun r => decide (r.length ≤ m)) = true)
    (hs : subB K vs tab = true) (hn : noB K vs = true) (hv : ∀ c, c < tab.length → vs.getD c .none = .ref (cs.getD c 0)) (hE : ∀ c, c < tab.length → ErrC K (cs.getD c 0)) (hf : fls.length ≤ tab.length)
    (hfi : (List.range fls.length).all (fun c => (fls.getD c []).all fun n => decide (n < ns.length)) = true) (hnd : ns.Nodup) (hfo : ∀ c, c < fls.length → ∀ n ∈ fls.getD c [], PySem.W.findIn K (.ref (cs.getD c 0)) (ns.getD n "") = some none) : ClsF K (gE K cs vs ns) ce where
  sub := fun c k b h => by
    subst hm
    rw [h1] at h
    unfold subT at h
    cases q : tab[c]? with
    | none => rw [q] at h; cases h
    | some r =>
      rw [q] at h
      have hc := (List.getElem?_eq_some_iff.mp q).1
      have hr : r ∈ tab := List.mem_of_getElem? q
      have hk : k < r.length := (List.getElem?_eq_some_iff.mp (show r[k]? = some b from h)).1
      rw [List.all_eq_true] at ht
      have hkv := of_decide_eq_true (ht r hr)
      unfold subB at hs
      rw [List.all_eq_true] at hs
      have s1 := hs c (List.mem_range.mpr hc)
      rw [List.all_eq_true] at s1
      have s2 := s1 k (List.mem_range.mpr (by omega))
      have e : subT tab c k = some b := by unfold subT; rw [q]; exact h
      rw [e] at s2
      simp only [Bool.and_eq_true, decide_eq_true_eq] at s2
      exact ⟨s2.1, s2.2, _, hv c hc, (hE c hc).ek⟩
  no := fun k h d hd => by
    subst hm
    rw [h3] at h
    have hk : k < vs.length := of_decide_eq_true h
    unfold noB at hn
    rw [List.all_eq_true] at hn
    have a := hn (vs.getD k .none) (by rw [List.getD_eq_getElem?_getD, List.getElem?_eq_getElem hk]; exact List.getElem_mem hk)
    rw [List.all_eq_true] at a
    have b := a (dN d) (by cases d <;> first | (cases hd; done) | simp [dN])
    exact of_decide_eq_true b
  fld := fun c n h => by
    rw [h2] at h
    have hc : c < fls.length := by
      by_cases z : c < fls.length
      · exact z
      · have e : fls.getD c [] = [] := by rw [List.getD_eq_getElem?_getD, List.getElem?_eq_none (by omega)]; rfl
        have h' : n ∈ fls.getD c [] := h
        rw [e] at h'; cases h'
    rw [List.all_eq_true] at hfi
    have a := hfi c (List.mem_range.mpr hc)
    rw [List.all_eq_true] at a
    refine ⟨_, hv c (by omega), (hE c (by omega)).xf, hfo c hc n h, fun m hm e => ?_⟩
    rw [h2] at hm
    have l1 := of_decide_eq_true (a n h)
    have l2 := of_decide_eq_true (a m hm)
    have e' : ns.getD m "" = ns.getD n "" := e
    rw [List.getD_eq_getElem?_getD, List.getD_eq_getElem?_getD, List.getElem?_eq_getElem l1, List.getElem?_eq_getElem l2] at e'
    exact (List.getElem_inj hnd).mp e'
/-- the law's own promise, told without data -/
def spL (K : PySem.W.Frag) (n : Nat) : Sp := fun vs H Q _ => ∃ (a : Addr) (ns : List Int), vs = [.ref a] ∧ ns.length ≤ n ∧ SqL K H a (ns.map V.int) ∧ ∀ H', Q (.bl true) H'
theorem law_spG {K : PySem.W.Frag} {g : Gx} {F : List Arg → RF} (hK : g.K = K) (ht : ∀ H, g.tok H) (hb : ∀ a, ¬ g.tb a) (n : Nat) (hF : ∀ ns : List Int, ns.length ≤ n → ∃ l, F [.p (.lst (ns.map D.int))] = .ok (.p (.bl true)) l) {vs : List V} {H : Hp} {Q : VK} {E : XK} (h : spL K n vs H Q E) : spD g 1 F vs H Q E := by
  obtain ⟨a, ns, rfl, hl, hS, q⟩ := h
  obtain ⟨l, e⟩ := hF ns hl
  refine ⟨rfl, [.p (.lst (ns.map D.int))], H, ⟨rfl, .refl H, fun i d h => ?_, fun i b k c h => ?_, fun i j b k c b' k' c' a h => ?_, ht H, fun a h => (hb a h).elim⟩, ?_⟩
  · match i, h with
    | 0, h => cases h; exact ⟨_, rfl, a, _, rfl, by rw [hK]; exact hS, ints_rps ns⟩
    | i + 1, h => simp [aE] at h
  · match i, h with
    | 0, h => cases h
    | i + 1, h => simp [aE] at h
  · match i, h with
    | 0, h => cases h
    | i + 1, h => simp [aE] at h
  · rw [e]
    exact fun x Hb' H' _ _ _ rv => by
      obtain rfl : x = V.bl true := rv
      exact q H'
theorem law_imp {P : Program} {w : World} {K : PySem.W.Frag} {mg : Str → Option Value} {k n : Nat} {fa : Addr} {x : Str} {F : List Arg → RF} {cs : List Addr} {vs : List Value} {ns : List Str} (hF : ∀ ns : List Int, ns.length ≤ n → ∃ l, F [.p (.lst (ns.map D.int))] = .ok (.p (.bl true)) l)
    (h : ∃ fd : FuncData, (∀ (s : Shared) (v : Value), BindsTo s fd ⟨[v], []⟩ [(x, v)]) ∧ ∀ base : Heap, K.In base → base.Ns mainGlobals mg → FnR false P w K mg base (L2.CX P w) k fa fd [x] (spD (gE K cs vs ns) 1 F)) :
    ∃ fd : FuncData, (∀ (s : Shared) (v : Value), BindsTo s fd ⟨[v], []⟩ [(x, v)]) ∧ ∀ base : Heap, K.In base → base.Ns mainGlobals mg → FnOk P w K mg base (L2.CX P w) k fa fd [x] (spL K n) := by
  obtain ⟨fd, h1, h2⟩ := h
  exact ⟨fd, h1, fun base b1 b2 => (h2 base b1 b2).ok.imp fun vs H Q E q => law_spG rfl (fun _ => trivial) (fun _ z => z) n hF q⟩
theorem spL_start {K : PySem.W.Frag} {n : Nat} {H : Hp} {a : Addr} {ns : List Int} (hl : ns.length ≤ n) (hS : SqL K H a (ns.map V.int)) : spL K n [.ref a] H (fun v _ => v = .bl true) (fun _ _ _ => False) := ⟨a, ns, rfl, hl, hS, fun _ => rfl⟩
end Vd
/-! Ve6: a class of exceptions that is raised, from what the written part says. -/
namespace Vd
open PySem PySem.Spec PyProof.Rows L2
def clsBody : Stmt → List Stmt
  | .ClassDef _ _ _ b _ _ _ _ _ _ _ => b
  | _ => []
/-- the names of such an __init__ -/
def scSB (N : List Str) (sc : Scope) : Bool :=
  decide (sc.kind = .function) && !sc.isCoroutine && !sc.isGenerator && decide N.Nodup && N.all (fun x => decide (sc.names.lookup x = some .local)) && sc.names.all (fun y => !decide (y.2 = .cell) && (!decide (y.2 = .free) || decide (y.1 = ("__class__" : Str))))
    && decide (sc.names.lookup ("super" : Str) = some .globalImplicit) && decide (sc.names.lookup ("__class__" : Str) = some .free)
theorem scSB_ok {N : List Str} {sc : Scope} (h : scSB N sc = true) : ScS N sc := by
  unfold scSB at h
  simp only [Bool.and_eq_true, decide_eq_true_eq, List.all_eq_true, Bool.not_eq_true', Bool.or_eq_true, decide_eq_false_iff_not] at h
  obtain ⟨⟨⟨⟨⟨⟨⟨a1, a2⟩, a3⟩, a4⟩, a5⟩, a6⟩, a7⟩, a8⟩ := h
  exact ⟨a1, a2, a3, a4, a5, fun y hy => (a6 y hy).1, a7, a8, fun y hy e => ((a6 y hy).2).resolve_left fun z => z e⟩
section
variable {P : Program} {w : World} {K : PySem.W.Frag} {mg : Str → Option Value} {base : Heap} {g : Gx} {ce : CE} {x qual : Str} {c : Nat} {st : Stmt} {C f cc cda : Addr} {names : List Str}
theorem rse_mk {oc kV doc pm ct ccl cl : Value} {od an cdd cld : Option Addr} {osl ccs csl : Array (Option Value)} {vs : Array Value} {file : Str} {tf : Tok} {rest : List Stmt} {m : Str} {p0 p1 p2 p3 p4 pc : Pos} {kd : Nat} {ar : PySem.Arg}
    (E : ErrC K C) (hs : supB K C names = true) (gl : mg x = some (.ref C)) (hca : g.ca c = C) (hcv : g.cv c = .ref C) (hfl : (ce.flds c).map g.fl = names)
    (iC : PySem.W.findIn K (.ref C) "__init__" = some (some (.ref f))) (tI : PySem.W.typeIn K (.ref f) = some (.type "function"))
    (lk : K.lookup f = some ⟨oc, od, .func (PySem.W.ksFn "__init__" qual (defArgs st) (defBody st) (defScope st) .none kV doc pm an (.ref cda) ct cc), osl⟩) (hcd : PySem.W.codeIn K (.ref cda) qual = true) (kp : PySem.W.keepIn K (.ref f) = true)
    (lcc : K.lookup cc = some ⟨cl, cld, .cell (some (.ref C)), csl⟩) (lcd : K.lookup cda = some ⟨ccl, cdd, .fields vs, ccs⟩) (hv2 : vs[2]? = some (.str file tf)) (hfile : ((P.main.file : Str) == file) = true)
    (S : scSB (("self" : Str) :: names) (defScope st) = true) (har : ((defArgs st).posonlyargs ++ (defArgs st).args).head? = some ar) (har2 : ar.arg = "self")
    (hbd : defBody st = .Expr (.Call (.Attribute (.Call (.Name "super" p0) [] [] p1) "__init__" p2) [.Constant (.str m) kd pc] [] p3) p4 :: rest) (mS : mg "super" = none) (htop : (P.main.scope.names.lookup ("super" : Str)).isSome = false) (hmz : m.length ≤ sizeLine)
    {pl : Env → Sem Bool} (hcall : ∀ env, eval (.Call (.Attribute (.Call (.Name "super" p0) [] [] p1) "__init__" p2) [.Constant (.str m) kd pc] [] p3) env = (do
      let ov ← attributeBase (.Call (.Name "super" p0) [] [] p1) "__init__" env (eval (.Call (.Name "super" p0) [] [] p1) env)
      standAt p2.atName
      let (fm, first) ← holding [ov] (getMethod ov "__init__" (pl env))
      callWith p3 fm first (backTo p3 (starEach [.Constant (.str m) kd pc] env)) []))
    (hst : stB names rest = true) (hz : names.length ≤ 800) (hb : ∀ us : List Value, us.length = (("self" : Str) :: names).length → bindArgs (PySem.W.ksFn "__init__" qual (defArgs st) (defBody st) (defScope st) .none kV doc pm an (.ref cda) ct cc) ⟨us, []⟩ = pure ((("self" : Str) :: names).zip us)) : RseF P w K mg base g ce x c := by
  obtain ⟨sc, no⟩ := supB_ok hs E
  subst hca
  exact ⟨gl, hcv, E.ox, f, _, iC, tI, by
    rw [hfl]
    exact fn_init ⟨⟨oc, kV, doc, pm, ct, ccl, cl, od, an, cdd, cld, cda, cc, osl, ccs, csl, vs, file, tf, rfl, lk, hcd, lcc, lcd, hv2, hfile⟩, kp⟩ sc (scSB_ok S) har har2 hbd mS htop hmz hcall hst no hz, by
    rw [hfl]
    exact .all hb⟩
theorem hfo_of {ns : List Str} {fl : List Nat} (h : names.all (fun n => decide (PySem.W.findIn K (.ref C) n = some none)) = true) (e : names = fl.map fun n => ns.getD n "") : ∀ n ∈ fl, PySem.W.findIn K (.ref C) (ns.getD n "") = some none := fun n hn => by
  rw [List.all_eq_true] at h
  exact of_decide_eq_true (h _ (by rw [e]; exact List.mem_map_of_mem (f := fun n => ns.getD n "") hn))
end
section
variable {P : Program} {w : World} {mg : Str → Option Value} {base : Heap} {g : Gx} {ce : CE} {k : Nat} {cf : Cf}
def xsAll (mg : Str → Option Value) (g : Gx) : List (Str × Nat) → Prop
  | [] => True
  | (x, c) :: l => ((∃ v, ClsV v (g.cv c)) ∧ (mg x = some (g.cv c) ∨ (mg x = none ∧ bootBuiltins x = some (g.cv c) ∧ x ≠ "__name__"))) ∧ xsAll mg g l
def rsAll (P : Program) (w : World) (mg : Str → Option Value) (base : Heap) (g : Gx) (ce : CE) (k : Nat) : List (Str × Nat) → Prop
  | [] => True
  | (x, c) :: l => (RseF P w g.K mg base g ce x c ∧ 2 ≤ k) ∧ rsAll P w mg base g ce k l
def flAll (g : Gx) : List (Nat × Str) → Prop
  | [] => True
  | (n, x) :: l => g.fl n = x ∧ flAll g l
theorem exF_mk (hc : ClsF g.K g ce) (hx : xsAll mg g cf.xs) (hr : rsAll P w mg base g ce k cf.rs) (hf : flAll g cf.fl) : ExF P w mg base g ce k cf where
  xs := by
    have : ∀ l : List (Str × Nat), xsAll mg g l → ∀ x c, (x, c) ∈ l → ((∃ v, ClsV v (g.cv c)) ∧ (mg x = some (g.cv c) ∨ (mg x = none ∧ bootBuiltins x = some (g.cv c) ∧ x ≠ "__name__"))) := fun l => by
      induction l with
      | nil => intro _ x c m; cases m
      | cons p l ih =>
        obtain ⟨y, d⟩ := p
        intro h x c m
        rcases List.mem_cons.mp m with e | m
        · cases e; exact h.1
        · exact ih h.2 x c m
    exact this _ hx
  cls := hc
  rs := by
    have : ∀ l : List (Str × Nat), rsAll P w mg base g ce k l → ∀ x c, (x, c) ∈ l → (RseF P w g.K mg base g ce x c ∧ 2 ≤ k) := fun l => by
      induction l with
      | nil => intro _ x c m; cases m
      | cons p l ih =>
        obtain ⟨y, d⟩ := p
        intro h x c m
        rcases List.mem_cons.mp m with e | m
        · cases e; exact h.1
        · exact ih h.2 x c m
    exact this _ hr
  fl := by
    have : ∀ l : List (Nat × Str), flAll g l → ∀ n x, (n, x) ∈ l → g.fl n = x := fun l => by
      induction l with
      | nil => intro _ x c m; cases m
      | cons p l ih =>
        obtain ⟨y, d⟩ := p
        intro h x c m
        rcases List.mem_cons.mp m with e | m
        · cases e; exact h.1
        · exact ih h.2 x c m
    exact this _ hf
end
end Vd
/-! Vf4: laws with tables of code objects. -/
namespace Vd
open PySem PySem.Spec PyProof.Rows L2 LamX
theorem tabs_upd {T : List (Addr × Str)} {H : Hp} {a : Addr} {o : HO} (t : Tabs T H) (h1 : ∀ ps, H a ≠ some (.tbl ps)) (h2 : ∀ p, H a ≠ some (.ext p)) : Tabs T (upd H a o) := fun p hp => by
  obtain ⟨ps, q1, q2, q3⟩ := t p hp
  have n1 : p.1 ≠ a := fun z => h1 ps (by rw [← z]; exact q1)
  refine ⟨ps, by rw [upd_ne n1]; exact q1, q2, fun pos cv hc => ?_⟩
  obtain ⟨c, e1, e2⟩ := q3 pos cv hc
  have n2 : c ≠ a := fun z => h2 _ (by rw [← z]; exact e2)
  exact ⟨c, e1, by rw [upd_ne n2]; exact e2⟩
/-- .. tables -/
def gET (K : PySem.W.Frag) (cs : List Addr) (vs : List Value) (ns : List Str) (T : List (Addr × Str)) : Gx :=
  ⟨K, fun n => cs.getD n 0, fun _ => 0, fun n => vs.getD n .none, fun n => ns.getD n "", fun a => ∃ p ∈ T, p.1 = a, Tabs T, false, fun _ _ _ t h1 h2 => tabs_upd t h1 h2⟩
theorem clsF_T {K : PySem.W.Frag} {cs : List Addr} {vs : List Value} {ns : List Str} {T : List (Addr × Str)} {ce : CE} (h : ClsF K (gE K cs vs ns) ce) : ClsF K (gET K cs vs ns T) ce := ⟨h.1, h.2, h.3⟩
def tabU (T : List (Addr × Str)) : Bool := T.all fun p => T.all fun r => !decide (p.1 = r.1) || decide (p.2 = r.2)
theorem tabU_ok {T : List (Addr × Str)} (h : tabU T = true) {P : Addr} {q : Str} (m : (P, q) ∈ T) : ∀ p ∈ T, p.1 = P → p.2 = q := fun p hp e => by
  unfold tabU at h
  simp only [List.all_eq_true, Bool.or_eq_true, Bool.not_eq_true', decide_eq_true_eq, decide_eq_false_iff_not] at h
  rcases h p hp _ m with z | z
  · exact absurd e z
  · exact z
def toldB (cf : Cf) (C : Nat) (te : T) (a y : Str) : List Stmt → Bool
  | [.Assign [.Name y1 _] (.List [] _) _, .Try [.Expr (.Call (.Name a1 _) [] [] _) _] [hd] [] [] _, .Return (some (.Name y2 _)) _] => decide (y1 = y) && decide (y2 = y) && decide (a1 = a) && (match hdL cf [C] (some 2) hd with
    | some su => chkSs [.set 1 (.lst [te])] cf.heat su
    | none => false)
  | _ => false
section
variable {P : Program} {w : World} {mg : Str → Option Value} {base : Heap} {g : Gx} {ce ceT : CE}
theorem tol_mk {x a y er : Str} {f C : Nat} {te : T} {st : Stmt} {gA : Addr} {fd : FuncData} {cfT : Cf} {k0 : Nat}
    (Fn : Fun g.K x x st gA fd) (hm : mg x = some (.ref gA)) (hb : Binds g.K fd [a] []) (Sc : FnScope [a, y, er] [a] (defScope st)) (hn : (plainN x && plainN a && plainN y && visB (defScope st) a && decide ((defScope st).names.lookup y = some .local)) = true)
    (hbd : toldB cfT C te a y (defBody st) = true) (hN : cfT.N = [a, y, er]) (hsc : cfT.sc = defScope st) (exf : ExF P w mg base g ceT k0 cfT) (htl : ce.tl f = toldF ceT C te)
    (hfs : cfT.fs = [] := by rfl) (hks : cfT.ks = [] := by rfl) (hcs : cfT.cs = [] := by rfl) (hbs : cfT.bs = [] := by rfl) (hrs : cfT.rs = [] := by rfl) (hts : cfT.ts = [] := by rfl) (hfl : cfT.fsl = [] := by rfl) (hkl : cfT.ksl = [] := by rfl) (hrpT : cfT.rp = false := by rfl) : TolF P w mg base g ce x f := by
  simp only [Bool.and_eq_true, decide_eq_true_eq] at hn
  obtain ⟨⟨⟨⟨n1, n2⟩, n3⟩, n4⟩, n5⟩ := hn
  generalize hB : defBody st = bd at hbd
  unfold toldB at hbd
  split at hbd
  · simp only [Bool.and_eq_true, decide_eq_true_eq] at hbd
    obtain ⟨⟨⟨rfl, rfl⟩, rfl⟩, h4⟩ := hbd
    split at h4
    · rename_i su hsu
      exact tol_ok Fn hm hb Sc n1 n2 n3 n4 n5 hB hN hsc hfs hks hcs hbs hrs hts hfl hkl hrpT hsu h4 exf htl
    · cases h4
  · cases hbd
theorem tabF_mk {K : PySem.W.Frag} {cs : List Addr} {vs : List Value} {ns : List Str} {T : List (Addr × Str)} {fd : FuncData} {qual : Str} {c Pt : Addr} (hc : fd.code = .ref c) (hB : TabB base mg c Pt) (hm : (Pt, envQ qual ++ "<lambda>") ∈ T) (hu : tabU T = true) : TabF mg base (gET K cs vs ns T) fd qual :=
  ⟨rfl, c, Pt, T, hc, hB, hm, tabU_ok hu hm, fun _ => .rfl, fun _ => .rfl⟩
end
/-- the law's promise, with tables -/
def spLT (K : PySem.W.Frag) (n : Nat) (Ps : List Addr) : Sp := fun vs H Q _ => ∃ (a : Addr) (ns : List Int), vs = [.ref a] ∧ ns.length ≤ n ∧ SqL K H a (ns.map V.int) ∧ (∀ p ∈ Ps, H p = some (.tbl #[])) ∧ ∀ H', Q (.bl true) H'
theorem law_spGT {K : PySem.W.Frag} {F : List Arg → RF} {cs : List Addr} {us : List Value} {fs : List Str} {T : List (Addr × Str)} (n : Nat) (hF : ∀ ns : List Int, ns.length ≤ n → ∃ l, F [.p (.lst (ns.map D.int))] = .ok (.p (.bl true)) l) {vs : List V} {H : Hp} {Q : VK} {E : XK} (h : spLT K n (T.map (·.1)) vs H Q E) : spD (gET K cs us fs T) 1 F vs H Q E := by
  obtain ⟨a, ns, rfl, hl, hS, hT, q⟩ := h
  obtain ⟨l, e⟩ := hF ns hl
  have off : ∀ {b : Addr} {o : HO}, H b = some o → (∀ ps, o ≠ .tbl ps) → b ∉ T.map (·.1) := fun {b o} h n m => by
    rw [hT b m] at h; cases h
    exact n _ rfl
  let Hb : Hp := fun b => if b ∈ T.map (·.1) then none else H b
  have hS' : SqL K Hb a (ns.map V.int) := by
    rcases hS with (h | ⟨o, h⟩) | h
    · exact .inl (.inl ((if_neg (off h (fun _ z => by cases z))).trans h))
    · exact .inl (.inr ⟨o, (if_neg (off h (fun _ z => by cases z))).trans h⟩)
    · exact .inr h
  refine ⟨rfl, [.p (.lst (ns.map D.int))], Hb, ⟨rfl, fun b o h => ?_, fun i d h => ?_, fun i b k c h => ?_, fun i j b k c b' k' c' a h => ?_, fun p hp => TabS.nil (hT _ (List.mem_map_of_mem hp)), fun b hb => ?_⟩, ?_⟩
  · by_cases m : b ∈ T.map (·.1)
    · have : Hb b = none := if_pos m
      rw [this] at h; cases h
    · exact (if_neg m).symm.trans h
  · match i, h with
    | 0, h => cases h; exact ⟨_, rfl, a, _, rfl, hS', ints_rps ns⟩
    | i + 1, h => simp [aE] at h
  · match i, h with
    | 0, h => cases h
    | i + 1, h => simp [aE] at h
  · match i, h with
    | 0, h => cases h
    | i + 1, h => simp [aE] at h
  · obtain ⟨p, hp, rfl⟩ := hb
    have m : p.1 ∈ T.map (·.1) := List.mem_map_of_mem hp
    exact ⟨if_pos m, ⟨_, hT _ m⟩⟩
  · rw [e]
    exact fun x Hb' H' _ _ _ rv => by
      obtain rfl : x = V.bl true := rv
      exact q H'
theorem law_impT {l : PySem.W.OpenLaw} {w : World} {K : PySem.W.Frag} {mg : Str → Option Value} {k n : Nat} {fa : Addr} {h : Heap} {x : Str} {F : List Arg → RF} {cs : List Addr} {vs : List Value} {ns : List Str} {ts : List (Str × Addr × Addr × Str)} {tks : List Addr} (hF : ∀ ns : List Int, ns.length ≤ n → ∃ l, F [.p (.lst (ns.map D.int))] = .ok (.p (.bl true)) l)
    (KX : K.In h) (hT : ∀ P ∈ tks, h.get? P = some (PySem.W.tabObj #[]))
    (hA : ∃ fd : FuncData, (∀ (s : Shared) (v : Value), BindsTo s fd ⟨[v], []⟩ [(x, v)]) ∧ ∀ base : Heap, K.In base → base.Ns mainGlobals mg → (∀ t ∈ ts, TabB base mg t.2.1 t.2.2.1) → FnR false l.prog w K mg base (L2.CX l.prog w) k fa fd [x] (spD (gET K cs vs ns (ts.map fun t => (t.2.2.1, t.2.2.2))) 1 F))
    (hq : (ts.all fun t => tks.contains t.2.2.1 && PySem.W.codeHdIn K t.2.1 t.2.2.1 && (K.lookup t.2.2.1).isNone) = true) :
    LawAtS l w K (L2.CX l.prog w) k n x mg fa h := by
  obtain ⟨fd, a1, a2⟩ := hA
  have hh : ∀ t ∈ ts, t.2.2.1 ∈ tks ∧ PySem.W.codeHdIn K t.2.1 t.2.2.1 = true ∧ K.lookup t.2.2.1 = none := fun t m => by
    have q := List.all_eq_true.mp hq t m
    simp only [Bool.and_eq_true, List.contains_iff_mem, Option.isNone_iff_eq_none] at q
    exact ⟨q.1.1, q.1.2, q.2⟩
  refine ⟨fd, ts.map fun t => (t.2.1, t.2.2.1), spLT K n (ts.map (·.2.2.1)), fun p hp => ?_, fun p hp => ?_, fun p hp => ?_, a1, fun H a ns hl _ hE hS => ⟨a, ns, rfl, hl, hS, fun p hp => ?_, fun _ => rfl⟩, fun base b1 b2 b3 => ?_⟩
  · obtain ⟨t, m, rfl⟩ := List.mem_map.mp hp
    exact hT _ (hh t m).1
  · obtain ⟨t, m, rfl⟩ := List.mem_map.mp hp
    exact (hh t m).2.2
  · obtain ⟨t, m, rfl⟩ := List.mem_map.mp hp
    exact PySem.W.codeHd_of_K KX (hh t m).2.1
  · obtain ⟨t, m, rfl⟩ := List.mem_map.mp hp
    exact hE (t.2.1, t.2.2.1) (List.mem_map.mpr ⟨t, m, rfl⟩)
  · refine (a2 base b1 b2 fun t m => b3 (t.2.1, t.2.2.1) (List.mem_map.mpr ⟨t, m, rfl⟩)).ok.imp fun vs H Q E q => law_spGT n hF ?_
    rw [List.map_map]
    exact q
end Vd
/-! Vg2: laws that show lists (repr): what is under way is known at every call. -/
namespace Vd
open PySem PySem.Spec PyProof.Rows L2
def gR (K : PySem.W.Frag) (cs : List Addr) (vs : List Value) (ns : List Str) : Gx := ⟨K, fun n => cs.getD n 0, fun _ => 0, fun n => vs.getD n .none, fun n => ns.getD n "", fun _ => False, fun _ => True, true, fun _ _ _ _ _ _ => trivial⟩
theorem clsF_R {K : PySem.W.Frag} {cs : List Addr} {vs : List Value} {ns : List Str} {ce : CE} (h : ClsF K (gE K cs vs ns) ce) : ClsF K (gR K cs vs ns) ce := ⟨h.1, h.2, h.3⟩
/-- the call of the law, nothing but its script tracked -/
theorem law_callR {P : Program} {w : World} {K : PySem.W.Frag} {mg mb : Str → Option Value} {CX : CXT} {k : Nat} {fa a : Addr} {fd : FuncData} {x : Str} {sp : Sp} {s1 : Shared} {vs : List Value} {ns : List Int}
    (KX : K.In s1.heap) (hns : s1.heap.Ns mainGlobals mg) (hb : s1.heap.Ns builtinsNs mb) (hbb : ∀ x : Str, x ≠ "__name__" → mb x = bootBuiltins x) (hlim : s1.heap.NoLimit) (hg : s1.gens = #[])
    (ha : s1.heap.get? a = some { cls := .type "list", data := .seq vs.toArray }) (hi : IntsAre vs ns) (hl : ns.length ≤ sizeLine) (hr : Room k callerA)
    (F : ∀ base : Heap, K.In base → base.Ns mainGlobals mg → FnR true P w K mg base CX k fa fd [x] sp) (hbind : ∀ (s : Shared) (u : Value), BindsTo s fd ⟨[u], []⟩ [(x, u)])
    (hsp : ∀ H : Hp, Only H → SqL K H a (ns.map V.int) → sp [.ref a] H (fun v _ => v = .bl true) fun _ _ _ => False)
    (hCX : ∀ H e s', CX [] H s1 (fun _ _ _ => False) e s' → False) :
    codeAny (model P w) callerA (.call (.ref fa) ⟨[.ref a], []⟩) (fun r s' => r = .ok (.ret (.bool true)) ∧ OldK s1.heap s'.heap ∧ s'.os = s1.os ∧ AllBare s'.gens) s1 := by
  have rv := vals_ints hi
  have lenV := hi.length
  have go : ∀ H : Hp, Only H → SqL K H a (ns.map V.int) → HOk P w H s1.heap → (∀ b, H b ≠ none → b = a) → (H a ≠ none → K.lookup a = none) →
      codeAny (model P w) callerA (.call (.ref fa) ⟨[.ref a], []⟩) (fun r s' => r = .ok (.ret (.bool true)) ∧ OldK s1.heap s'.heap ∧ s'.os = s1.os ∧ AllBare s'.gens) s1 := by
    intro H hO hS hok hA hK
    have dictNo : ∀ {b : Addr} {o : Obj} {es : Array DictEntry} {ep : Nat}, s1.heap.get? b = some o → o.data = .dict es ep → H b = none := by
      intro b o es ep e d
      cases q : H b with
      | none => rfl
      | some u =>
        obtain rfl : b = a := hA b (by rw [q]; simp)
        rw [ha] at e; cases e
        cases (show Data.seq vs.toArray _ = Data.dict es ep from d)
    have nsK : ∀ {b : Addr} {m : Str → Option Value}, s1.heap.Ns b m → (hidT s1.heap H).Ns b m := fun {b m} ⟨o, es, ep, e, d, r⟩ => ⟨o, es, ep, hidT_get e (dictNo e d), d, r⟩
    have hKb : K.In (hidT s1.heap H) := by
      intro b o e
      refine hidT_get (KX b o e) ?_
      cases q : H b with
      | none => rfl
      | some u =>
        obtain rfl : b = a := hA b (by rw [q]; simp)
        rw [hK (by rw [q]; simp)] at e; cases e
    have e0 : Env0 P w K mg (hidT s1.heap H) callerA [] s1 H :=
      ⟨rfl, ⟨hKb, nsK hns, ⟨mb, nsK hb, hbb⟩, let ⟨mc, h1, h2⟩ := hlim; ⟨mc, nsK h1, h2⟩⟩, fun b o e => of_hidT e, Nat.le_of_eq (hidT_size _ _), trivial, fun b hb => absurd (show b ∈ ([] : List Addr) from hb) (by simp), hok, .of_eq hg⟩
    refine codeAny_mono ((F _ hKb (nsK hns)).run callerA [] s1 H ⟨[.ref a], []⟩ [.ref a] [.ref a] _ _ (fun _ => rfl) hr e0 (hbind s1 (.ref a)) (.cons rfl .nil) (hsp H hO hS)) fun r s' h => ?_
    cases r with
    | error e => exact (hCX H e s' h).elim
    | ok fl =>
      cases fl with
      | next => exact False.elim h
      | brk => exact False.elim h
      | cont => exact False.elim h
      | ret u =>
        obtain ⟨v, H', os, bare, un, hok', r', q⟩ := h
        obtain rfl : v = .bl true := q
        obtain rfl : u = Value.bool true := r'
        refine ⟨rfl, OldK.of_keep fun b o e => ?_, os, bare⟩
        cases q : H b with
        | none => exact un.keep b o e q (by intro z; exact absurd (show b ∈ ([] : List Addr) from z) (by simp)) (by simp)
        | some u =>
          rcases hO b with z | ⟨ob, xs, z⟩
          · rw [q] at z; cases z
          · obtain ⟨e1, _⟩ := hok b _ z
            obtain ⟨e2, _⟩ := hok' b _ (un.frzs b ob _ z)
            rw [e] at e1; cases e1
            exact e2
  cases hk : K.lookup a with
  | some o =>
    have e := KX a o hk
    rw [ha] at e
    cases e
    refine go (fun _ => none) (fun _ => .inl rfl) (.inr ⟨_, vs.toArray, _, hk, rfl, rfl, rfl, by rw [List.size_toArray, lenV]; exact hl, by simpa using rv⟩) (fun b u z => by cases (show (none : Option HO) = some u from z)) (fun b z => absurd rfl z) fun z => absurd rfl z
  | none =>
    refine go (fun b => if b = a then some (.frz { cls := .type "list", data := .seq vs.toArray } (.lst (ns.map V.int))) else none) (fun b => ?_) (.inl (.inr ⟨{ cls := .type "list", data := .seq vs.toArray }, if_pos rfl⟩)) (fun b u z => ?_) (fun b z => ?_) fun _ => hk
    · by_cases hb : b = a
      · exact .inr ⟨_, _, if_pos hb⟩
      · exact .inl (if_neg hb)
    · by_cases hb : b = a
      · cases (if_pos hb).symm.trans z
        subst hb
        exact ⟨ha, by rw [List.length_map]; exact hl, vs, _, rv, ha⟩
      · cases (if_neg hb).symm.trans z
    · by_cases hb : b = a
      · exact hb
      · exact absurd (if_neg hb) z
/-- the whole law, from its def's promise -/
theorem walk_ofR {l : PySem.W.OpenLaw} {n k : Nat} {q : Program} {loose : List Str} {XP : (Str → Option Value) → Heap → Prop} {YP : World → Heap → Prop} {d : DefRec} {K : Params → PySem.W.Frag} {CX : World → CXT} {sp : World → Sp} {x : Str}
    (hn : l.most = some n) (hn2 : n ≤ sizeLine) (hdf : d.params.defaults = []) (hr : Room k callerA)
    (hY : ∀ (w : World) (h : Heap), YP w h → (K w.params).In h)
    (F : ∀ (w : World) (mg : Str → Option Value) (fa : Addr) (h : Heap), (K w.params).In h → h.Ns mainGlobals mg → mg d.name = some (.ref fa) →
      ∃ fd : FuncData, (∀ (s : Shared) (u : Value), BindsTo s fd ⟨[u], []⟩ [(x, u)]) ∧
        ∀ base : Heap, (K w.params).In base → base.Ns mainGlobals mg → FnR true l.prog w (K w.params) mg base (CX w) k fa fd [x] (sp w))
    (hsp : ∀ (w : World) (H : Hp) (a : Addr) (ns : List Int), ns.length ≤ n → Only H → SqL (K w.params) H a (ns.map V.int) → sp w [.ref a] H (fun v _ => v = .bl true) fun _ _ _ => False)
    (hCX : ∀ (w : World) (H : Hp) (s : Shared) (e : Value) (s' : Shared), CX w [] H s (fun _ _ _ => False) e s' → False) :
    PySem.W.WalkO q loose XP YP l.row.toRowW d [] (fun f vs => PySem.call f vs) := by
  refine Att.attach_call hn hdf fun w s0 s1 mg mb fa o pm cd doc a vs ns G Y ho hd hcd hmg hobj hints hlen hg => ?_
  have KX := hY w _ Y
  obtain ⟨fd, hb, hF⟩ := F w mg fa _ KX G.T.g hmg
  exact law_callR KX G.T.g G.T.b G.T.builtins G.T.nolimit hg hobj hints (Nat.le_trans hlen hn2) hr hF hb (fun H hO hS => hsp w H a ns hlen hO hS) fun H e s' => hCX w H s1 e s'
theorem law_impR {P : Program} {w : World} {K : PySem.W.Frag} {mg : Str → Option Value} {k n : Nat} {fa : Addr} {x : Str} {F : List Arg → RF} {cs : List Addr} {vs : List Value} {ns : List Str} (hF : ∀ ns : List Int, ns.length ≤ n → ∃ l, F [.p (.lst (ns.map D.int))] = .ok (.p (.bl true)) l)
    (h : ∃ fd : FuncData, (∀ (s : Shared) (v : Value), BindsTo s fd ⟨[v], []⟩ [(x, v)]) ∧ ∀ base : Heap, K.In base → base.Ns mainGlobals mg → FnR true P w K mg base (L2.CX P w) k fa fd [x] (spD (gR K cs vs ns) 1 F)) :
    ∃ fd : FuncData, (∀ (s : Shared) (v : Value), BindsTo s fd ⟨[v], []⟩ [(x, v)]) ∧ ∀ base : Heap, K.In base → base.Ns mainGlobals mg → FnR true P w K mg base (L2.CX P w) k fa fd [x] (spL K n) := by
  obtain ⟨fd, h1, h2⟩ := h
  exact ⟨fd, h1, fun base b1 b2 => (h2 base b1 b2).imp fun vs H Q E q => law_spG rfl (fun _ => trivial) (fun _ z => z) n hF q⟩
end Vd
/-! Vd22: the draws that all laws share. -/
namespace Vd
/-- what evaluates -/
theorem runF_def (ce : CE) (n : Nat) (b : List S) (as : List Arg) : runF ce n b as = runO as (exs ce b (as.map Arg.ss ++ List.replicate (n - as.length) .un)) := rfl
def bMixed : List S := [
    .set 2 (.bin .mod (.bi .int [(.bin .add (.bin .add (.bin .add (.bin .mod (.bi .int [(.var 0)]) (.int 1000000007)) (.bin .mul (.bin .mul (.int 7919) (.var 1)) (.var 1))) (.bin .mul (.int 31) (.var 1))) (.int 7))]) (.int 2147483647)),
    .set 2 (.bin .mod (.bi .int [(.bin .mul (.bin .mod (.bi .int [(.bin .mul (.var 2) (.var 2))]) (.int 2147483647)) (.var 2))]) (.int 2147483629)),
    .ret (.bin .fdiv (.bin .mod (.bi .int [(.bin .mul (.var 2) (.bin .add (.int 69621) (.bin .mul (.int 2) (.bin .mod (.bi .int [(.var 1)]) (.int 1000)))))]) (.int 2147483647)) (.int 7))]
theorem mul_s1 {i j : Int} (h : -big < i ∧ i < big) : bop .mul (.int i) (.int j) = some (.p (.int (i * j))) := by simp [bop, h]
theorem mul_s2 {i j : Int} (h : -big < j ∧ j < big) : bop .mul (.int i) (.int j) = some (.p (.int (i * j))) := by simp [bop, h]
theorem mod_s {i j : Int} (h : 0 < j) : bop .mod (.int i) (.int j) = some (.p (.int (i % j))) := by simp [bop, h]
theorem fdiv_s {i j : Int} (h : 0 < j ∧ j < 1073741824) : bop .fdiv (.int i) (.int j) = some (.p (.int (i / j))) := by simp [bop, h]
theorem mixed_ok (ce : CE) (c k : Int) (h0 : 0 ≤ k) (h1 : k < 2 ^ 63) : ∃ r : Int, runF ce 3 bMixed [.p (.int c), .p (.int k)] = .ok (.p (.int r)) [.p (.int c), .p (.int k)] ∧ 0 ≤ r ∧ r < 2 ^ 31 := by
  have hk : -big < k ∧ k < big := by unfold big; omega
  have hm : ∀ x : Int, -big < x % 2147483647 ∧ x % 2147483647 < big := fun x => by unfold big; omega
  have hm2 : ∀ x : Int, -big < x % 2147483629 ∧ x % 2147483629 < big := fun x => by unfold big; omega
  have hm3 : ∀ x : Int, -big < x % 1000 ∧ x % 1000 < big := fun x => by unfold big; omega
  simp [runF_def, bMixed, exs, ex, ev, evs, Arg.ss, op2, rd, rds, bfn, setV, putS, SS.free, retV, runO, backA, mod_s, mul_s1, mul_s2, fdiv_s, hk, hm, hm2, hm3, bop, ofX]
  constructor <;> omega
/-! ### the draws -/
def kC : DK := .inr [99, 101, 108, 108, 115]
def kA : DK := .inr [97, 116]
def kL : DK := .inr [108, 101, 102, 116]
def kU : DK := .inr [117, 115, 101, 100]
/-- the draws' dict -/
def dr (cs : List Int) (a l u : Int) : List (DK × D) := [(.inr [99, 101, 108, 108, 115], .lst (cs.map .int)), (.inr [97, 116], .int a), (.inr [108, 101, 102, 116], .int l), (.inr [117, 115, 101, 100], .int u)]
def bBegin : List S := [
    .ret (.dct [.inr [99, 101, 108, 108, 115], .inr [97, 116], .inr [108, 101, 102, 116], .inr [117, 115, 101, 100]] [(.bin .add (.var 0) (.lst [(.int 0)])), (.int 0), (.int 0), (.int 0)])]
theorem lt_line {n : Nat} (h : n < 16777216) : n < line := h
theorem le_line {n : Nat} (h : n ≤ 16777216) : n ≤ line := h
theorem begin_ok (ce : CE) (ns : List Int) (h : ns.length ≤ 100) : runF ce 1 bBegin [.p (.lst (ns.map .int))] = .ok (.fr (.od (dr (ns ++ [0]) 0 0 0))) [.p (.lst (ns.map .int))] := by
  have hl : ns.length + 1 ≤ line := by unfold line; omega
  simp [runF_def, bBegin, exs, ex, ev, evs, Arg.ss, op2, rd, retV, runO, backA, bop, fz, fzs, short, le_line, mkD, putD, hl, dr, OC.toD]
def bNext (i : Nat) : List S := [
    .ifs (.cmp .gt (.ix (.var 0) (.str [108, 101, 102, 116])) (.int 0))
    [.set 2 (.bin .mod (.bi .int [(.ix (.var 0) (.str [108, 101, 102, 116]))]) (.var 1)),
    .sub (.var 0) (.str [108, 101, 102, 116]) (.bin .fdiv (.ix (.var 0) (.str [108, 101, 102, 116])) (.var 1)),
    .ret (.var 2)]
    [],
    .set 3 (.ix (.var 0) (.str [99, 101, 108, 108, 115])),
    .set 4 (.ix (.var 3) (.bin .mod (.bi .int [(.ix (.var 0) (.str [97, 116]))]) (.bi .len [(.var 3)]))),
    .sub (.var 0) (.str [97, 116]) (.bin .add (.ix (.var 0) (.str [97, 116])) (.int 1)),
    .ifs (.and (.cmp .ge (.var 4) (.bin .pow (.int 10) (.int 18))) (.cmp .le (.ix (.var 0) (.str [97, 116])) (.bi .len [(.var 3)])))
    [.sub (.var 0) (.str [108, 101, 102, 116]) (.bin .fdiv (.var 4) (.var 1)),
    .ret (.bin .mod (.bi .int [(.var 4)]) (.var 1))]
    [],
    .sub (.var 0) (.str [117, 115, 101, 100]) (.bin .add (.ix (.var 0) (.str [117, 115, 101, 100])) (.int 1)),
    .ret (.bin .mod (.bi .int [(.call i [(.call i [(.var 4), (.ix (.var 0) (.str [97, 116]))]), (.ix (.var 0) (.str [117, 115, 101, 100]))])]) (.var 1))]
/-- a draw: what it may find, what it leaves -/
theorem next_ok (ce : CE) (i : Nat) (ce' : CE) (hi : ce.fn i = runF ce' 3 bMixed) (cs : List Int) (hc : cs ≠ []) (hl : cs.length ≤ 101) (a l u : Int) (h0 : 0 ≤ a) (h1 : a < 2 ^ 62) (h2 : 0 ≤ u) (h3 : u < 2 ^ 62) (h4 : 0 ≤ l) (b : Int) (hb : 0 < b) (hb2 : b < 1073741824) :
    ∃ r a' l' u' : Int, runF ce 5 (bNext i) [.o false (.od (dr cs a l u)), .p (.int b)] = .ok (.p (.int r)) [.o false (.od (dr cs a' l' u')), .p (.int b)] ∧ 0 ≤ r ∧ r < b ∧ a ≤ a' ∧ a' ≤ a + 1 ∧ 0 ≤ l' ∧ u ≤ u' ∧ u' ≤ u + 1 := by
  by_cases hl0 : 0 < l
  · refine ⟨l % b, a, l / b, u, ?_, ?_⟩
    · simp [runF_def, bNext, exs, ex, ev, evs, evT, Arg.ss, op1, op2, rd, rds, bfn, setV, putS, SS.free, SS.rd, retV, runO, backA, mod_s, fdiv_s, ofX, cop, item, keyOf, look, dr, OC.toD, hl0, tru, hb, hb2, subV, fz, putD, blV, lt_line]
    · refine ⟨Int.emod_nonneg _ (by omega), Int.emod_lt_of_pos _ hb, by omega, by omega, Int.ediv_nonneg h4 (by omega), by omega, by omega⟩
  · have hl1 : l = 0 := by omega
    subst hl1
    have hpos : (0 : Int) < cs.length := by
      have := List.length_pos_iff.mpr hc
      omega
    have hm0 := Int.emod_nonneg a (show (cs.length : Int) ≠ 0 by omega)
    have hm1 := Int.emod_lt_of_pos a hpos
    obtain ⟨c, hcell⟩ : ∃ c, ((ixn cs.length (a % (cs.length : Int))).bind fun j => cs[j]?) = some c := by
      unfold ixn
      rw [if_pos hm0, if_pos hm1]
      have : (a % (cs.length : Int)).toNat < cs.length := by omega
      exact ⟨_, List.getElem?_eq_getElem this⟩
    have hcell2 : ((ixn cs.length (a % (cs.length : Int))).bind fun j => Option.map D.int cs[j]?) = some (.int c) := by
      cases q : ixn cs.length (a % (cs.length : Int)) with
      | none => rw [q] at hcell; cases hcell
      | some j =>
        rw [q] at hcell
        have hcell' : cs[j]? = some c := hcell
        simp [hcell']
    have hpos' : 0 < cs.length := by omega
    by_cases h5 : 1000000000000000000 ≤ c ∧ a + 1 ≤ cs.length
    · obtain ⟨h5, h6⟩ := h5
      refine ⟨c % b, a + 1, c / b, u, ?_, ?_⟩
      · rw [runF_def]
        simp [bNext, exs, ex, ev, evs, evT, Arg.ss, op1, op2, rd, rds, bfn, lenD, setV, putS, SS.free, SS.rd, retV, runO, backA, mod_s, fdiv_s, ofX, cop, item, keyOf, look, dr, OC.toD, tru, hb, hb2, subV, fz, putD, blV, lt_line, bop, hpos, hpos', hcell2, h5, h6]
      · refine ⟨Int.emod_nonneg _ (by omega), Int.emod_lt_of_pos _ hb, by omega, by omega, Int.ediv_nonneg (by omega) (by omega), by omega, by omega⟩
    · obtain ⟨r1, e1, z1, z2⟩ := mixed_ok ce' c (a + 1) (by omega) (by omega)
      obtain ⟨r2, e2, z3, z4⟩ := mixed_ok ce' r1 (u + 1) (by omega) (by omega)
      refine ⟨r2 % b, a + 1, 0, u + 1, ?_, ?_⟩
      · rw [runF_def]
        by_cases h6 : 1000000000000000000 ≤ c
        · have h7 : ¬ a + 1 ≤ cs.length := fun z => h5 ⟨h6, z⟩
          simp [bNext, exs, ex, ev, evs, evT, Arg.ss, op1, op2, rd, rds, bfn, lenD, setV, putS, SS.free, SS.rd, retV, runO, backA, mod_s, fdiv_s, ofX, cop, item, keyOf, look, dr, OC.toD, tru, hb, hb2, subV, fz, putD, blV, lt_line, bop, hpos, hpos', hcell2, h6, h7, callR, vws, argsOf, argOf, putA, Ret.val, hi, e1, e2]
        · simp [bNext, exs, ex, ev, evs, evT, Arg.ss, op1, op2, rd, rds, bfn, lenD, setV, putS, SS.free, SS.rd, retV, runO, backA, mod_s, fdiv_s, ofX, cop, item, keyOf, look, dr, OC.toD, tru, hb, hb2, subV, fz, putD, blV, lt_line, bop, hpos, hpos', hcell2, h6, callR, vws, argsOf, argOf, putA, Ret.val, hi, e1, e2]
      · refine ⟨Int.emod_nonneg _ (by omega), Int.emod_lt_of_pos _ hb, by omega, by omega, by omega, by omega, by omega⟩
end Vd
/-! Vd23: rows of draws. -/
namespace Vd
/-- the draws' dict, n draws done -/
structure DS (cs : List Int) (n : Nat) (o : OC) : Prop where
  ne : cs ≠ []
  len : cs.length ≤ 101
  at' : ∃ a l u : Int, o = .od (dr cs a l u) ∧ 0 ≤ a ∧ a ≤ n ∧ 0 ≤ u ∧ u ≤ n ∧ 0 ≤ l
/-- F draws -/
def Draws (F : List Arg → RF) : Prop := ∀ (cs : List Int) (n : Nat) (o : OC) (b : Int), DS cs n o → n < 2 ^ 61 → 0 < b → b < 1073741824 → ∃ (r : Int) (o' : OC), F [.o false o, .p (.int b)] = .ok (.p (.int r)) [.o false o', .p (.int b)] ∧ DS cs (n + 1) o' ∧ 0 ≤ r ∧ r < b
theorem draws_ok {ce ce' : CE} {i : Nat} (hi : ce.fn i = runF ce' 3 bMixed) : Draws (runF ce 5 (bNext i)) := by
  intro cs n o b D hn hb hb2
  obtain ⟨a, l, u, rfl, h1, h2, h3, h4, h5⟩ := D.at'
  obtain ⟨r, a', l', u', e, z1, z2, z3, z4, z5, z6, z7⟩ := next_ok ce i ce' hi cs D.ne D.len a l u h1 (by omega) h3 (by omega) h5 b hb hb2
  exact ⟨r, _, e, ⟨D.ne, D.len, a', l', u', rfl, by omega, by omega, by omega, by omega, z5⟩, z1, z2⟩
theorem begin_ds {ce : CE} {ns : List Int} (h : ns.length ≤ 100) : ∃ o, runF ce 1 bBegin [.p (.lst (ns.map .int))] = .ok (.fr o) [.p (.lst (ns.map .int))] ∧ DS (ns ++ [0]) 0 o :=
  ⟨_, begin_ok ce ns h, ⟨by simp, by simp; omega, 0, 0, 0, rfl, by omega, by simp, by omega, by simp, by omega⟩⟩
/-- one draw from the frame -/
theorem draw_call {ce : CE} {f : Nat} (hF : Draws (ce.fn f)) {e : VE} {j : Nat} {bb : Bool} {cs : List Int} {n : Nat} {o : OC} {b : Int} (hj : e[j]? = some (.own bb false o)) (D : DS cs n o) (hn : n < 2 ^ 61) (hb : 0 < b) (hb2 : b < 1073741824) :
    ∃ (r : Int) (o' : OC), callR ce f [.vw j, .p (.int b)] e = .ok (.p (.int r)) (e.set j (.own bb false o')) ∧ DS cs (n + 1) o' ∧ 0 ≤ r ∧ r < b := by
  obtain ⟨r, o', h1, h2, h3, h4⟩ := hF cs n o b D hn hb hb2
  refine ⟨r, o', ?_, h2, h3, h4⟩
  have hm : e.modify j (SS.put o') = e.set j (.own bb false o') := by
    apply List.ext_getElem?
    intro k
    by_cases z : j = k
    · subst z
      rw [mod_eq hj, List.getElem?_set_self (List.getElem?_eq_some_iff.mp hj).1]
      rfl
    · rw [mod_ne z, List.getElem?_set_ne z]
  simp [callR, vws, argsOf, argOf, hj, h1, putA, hm, Ret.val]
theorem ev_draw {ce : CE} {f : Nat} (hF : Draws (ce.fn f)) {e : VE} {j : Nat} {bb : Bool} {cs : List Int} {n : Nat} {o : OC} {b : Int} {tb : T} (htb : ev ce tb e = .ok (.p (.int b)) e) (hj : e[j]? = some (.own bb false o)) (D : DS cs n o) (hn : n < 2 ^ 61) (hb : 0 < b) (hb2 : b < 1073741824) :
    ∃ (r : Int) (o' : OC), ev ce (.call f [.var j, tb]) e = .ok (.p (.int r)) (e.set j (.own bb false o')) ∧ DS cs (n + 1) o' ∧ 0 ≤ r ∧ r < b := by
  obtain ⟨r, o', h1, h2⟩ := draw_call hF hj D hn hb hb2
  exact ⟨r, o', by simp [ev, evs, hj, htb, h1], h2⟩
/-- the turns of a comprehension that draws -/
theorem lc_draws {ce : CE} {f : Nat} (hF : Draws (ce.fn f)) {j c : Nat} (hjc : j ≠ c) {cs : List Int} {b : Int} {tb : T} (hb : 0 < b) (hb2 : b < 1073741824) {bb : Bool} :
    ∀ (its : List D) (n : Nat) (o : OC) (e : VE), (∀ o' d, ev ce tb ((e.set c (.dat d)).set j (.own bb false o')) = .ok (.p (.int b)) ((e.set c (.dat d)).set j (.own bb false o'))) → e[j]? = some (.own bb false o) → e[c]? = some .un → DS cs n o → n + its.length < 2 ^ 61 →
      ∃ (rs : List Int) (o' : OC), lcF (lcT ce (.nm c) none (.call f [.var j, tb]) [c]) its e = .ok (rs.map .int) (e.set j (.own bb false o')) ∧ DS cs (n + its.length) o' ∧ rs.length = its.length ∧ ∀ r ∈ rs, 0 ≤ r ∧ r < b
  | [], n, o, e, _, hj, hc, D, _ => ⟨[], o, by
      rw [lcF]
      have : e.set j (.own bb false o) = e := by
        apply List.ext_getElem?
        intro k
        by_cases z : j = k
        · subst z; rw [List.getElem?_set_self (List.getElem?_eq_some_iff.mp hj).1, hj]
        · rw [List.getElem?_set_ne z]
      rw [this]; rfl, D, rfl, fun r h => by simp at h⟩
  | d :: its, n, o, e, htb, hj, hc, D, hn => by
    have hcl : c < e.length := (List.getElem?_eq_some_iff.mp hc).1
    have hjl : j < e.length := (List.getElem?_eq_some_iff.mp hj).1
    have hj1 : (e.set c (.dat d))[j]? = some (.own bb false o) := by rw [List.getElem?_set_ne (Ne.symm hjc)]; exact hj
    have e0 : (e.set c (.dat d)).set j (.own bb false o) = e.set c (.dat d) := by
      apply List.ext_getElem?
      intro k
      by_cases z : j = k
      · subst z; rw [List.getElem?_set_self (by simpa using hjl), hj1]
      · rw [List.getElem?_set_ne z]
    obtain ⟨r, o1, q1, D1, r0, r1⟩ := ev_draw hF (e := e.set c (.dat d)) (tb := tb) (by have := htb o d; rw [e0] at this; exact this) hj1 D (by simp at hn; omega) hb hb2
    have hback : wipeE [c] ((e.set c (.dat d)).set j (.own bb false o1)) = e.set j (.own bb false o1) := by
      apply List.ext_getElem?
      intro k
      rw [wipeE_at]
      by_cases z : c = k
      · subst z
        rw [if_pos (by simp), List.getElem?_set_ne hjc, List.getElem?_set_self hcl, List.getElem?_set_ne hjc, hc]
        rfl
      · rw [if_neg (by simp; exact fun w => z w.symm)]
        by_cases z2 : j = k
        · subst z2
          rw [List.getElem?_set_self (by simpa using hjl), List.getElem?_set_self hjl]
        · rw [List.getElem?_set_ne z2, List.getElem?_set_ne z, List.getElem?_set_ne z2]
    have turn : lcT ce (.nm c) none (.call f [.var j, tb]) [c] d e = .ok (some (.int r)) (e.set j (.own bb false o1)) := by
      have hput : bindG (.nm c) d e = some (e.set c (.dat d)) := by simp [bindG, putS, hc, SS.free]
      unfold lcT
      simp only [hput, ofO_some, R.bind_ok, evc, if_true, q1, fz, ofP_some]
      rw [hback]
    obtain ⟨rs, o2, q2, D2, l2, h2⟩ := lc_draws hF hjc hb hb2 its (n + 1) o1 (e.set j (.own bb false o1)) (fun o' d' => by
        have h := htb o' d'
        have : ((e.set j (.own bb false o1)).set c (.dat d')).set j (.own bb false o') = (e.set c (.dat d')).set j (.own bb false o') := by
          rw [List.set_comm _ _ hjc, List.set_set]
        rw [this]; exact h) (List.getElem?_set_self hjl) (by rw [List.getElem?_set_ne hjc]; exact hc) D1 (by simp at hn; omega)
    refine ⟨r :: rs, o2, ?_, by rw [List.length_cons, show n + (its.length + 1) = n + 1 + its.length by omega]; exact D2, by simp [l2], fun x hx => ?_⟩
    · rw [lcF, turn]
      simp only [R.bind_ok]
      rw [q2]
      simp only [R.bind_ok, List.set_set]
      rfl
    · rcases List.mem_cons.mp hx with rfl | hx
      · exact ⟨r0, r1⟩
      · exact h2 x hx
theorem set_self {e : VE} {k : Nat} {s : SS} (h : e[k]? = some s) : e.set k s = e := by
  apply List.ext_getElem?
  intro i
  by_cases z : k = i
  · subst z; rw [List.getElem?_set_self (List.getElem?_eq_some_iff.mp h).1, h]
  · rw [List.getElem?_set_ne z]
/-- a row of draws: [draw(j, b) for c in range(m)] -/
theorem ev_lc_draws {ce : CE} {f : Nat} (hF : Draws (ce.fn f)) {j c : Nat} (hjc : j ≠ c) {cs : List Int} {b m : Int} {ta tb : T} (hb : 0 < b) (hb2 : b < 1073741824) {bb : Bool} {n : Nat} {o : OC} {e e1 : VE} {s : SS} (hta : ev ce ta e = .ok (.p (.int m)) e1) (hm : 0 ≤ m) (hm2 : m ≤ 100000)
    (htb : ∀ o' d, ev ce tb ((e1.set c (.dat d)).set j (.own bb false o')) = .ok (.p (.int b)) ((e1.set c (.dat d)).set j (.own bb false o'))) (hj : e1[j]? = some (.own bb false o)) (hc : e1[c]? = some s) (D : DS cs n o) (hn : n + m.toNat < 2 ^ 61) :
    ∃ (rs : List Int) (o' : OC), ev ce (.lc (.call f [.var j, tb]) (.nm c) .rng [ta] none [c]) e = .ok (.fr (.ol (rs.map .int))) (e1.set j (.own bb false o')) ∧ DS cs (n + m.toNat) o' ∧ rs.length = m.toNat ∧ ∀ r ∈ rs, 0 ≤ r ∧ r < b := by
  have hcl : c < e1.length := (List.getElem?_eq_some_iff.mp hc).1
  have hit : itOf .rng [.int m] = some ((List.range m.toNat).map fun k => .int (k : Nat)) := by
    show rngOf [.int m] = _
    unfold rngOf
    have : -(2 ^ 61) ≤ m ∧ m ≤ (line : Int) := by unfold line; omega
    simp only [this, and_self, if_true]
  have hw : wipeE [c] e1 = e1.set c .un := rfl
  obtain ⟨rs, o', q, D', l', h'⟩ := lc_draws hF hjc hb hb2 (tb := tb) ((List.range m.toNat).map fun k => .int (k : Nat)) n o (e1.set c .un) (fun o' d => by
      rw [List.set_set]; exact htb o' d) (by rw [List.getElem?_set_ne (Ne.symm hjc)]; exact hj) (List.getElem?_set_self hcl) D (by simpa using hn)
  have hln : ((List.range m.toNat).map fun k => (Vd.D.int (k : Nat))).length = m.toNat := by simp
  rw [hln] at D' l'
  refine ⟨rs, o', ?_, D', l', h'⟩
  have hback : backE e1 [c] ((e1.set c .un).set j (.own bb false o')) = e1.set j (.own bb false o') := by
    show ((e1.set c .un).set j (.own bb false o')).set c ((e1[c]?).getD .un) = _
    rw [hc, Option.getD_some, List.set_comm _ _ hjc, List.set_set, set_self hc]
  have hlen : (rs.map Vd.D.int).length ≤ line := by
    rw [List.length_map, l']
    unfold line; omega
  rw [ev]
  have h1 : (evs ce [ta] e).bind (itsOf .rng) = .ok ([.p (.int m)], (List.range m.toNat).map fun k => .int (k : Nat)) e1 := by
    simp only [evs, hta, R.bind_ok, itsOf, rds, rd, Option.bind, Option.map, hit, ofO_some]
  rw [h1]
  simp only [R.bind_ok]
  have h2 : vws [.p (.int m)] = [] := rfl
  rw [h2]
  have h3 : lockE [] e1 = e1 := rfl
  rw [h3, hw]
  have h4 : lcF (fun d e => (ofO (bindG (.nm c) d e) e).bind fun e' _ => (evc ce none e').bind fun b e => if b = true then (ev ce (.call f [.var j, tb]) e).bind fun v e => (ofP (fz e v)).bind fun d e => .ok (some d) (wipeE [c] e) else .ok none (wipeE [c] e)) ((List.range m.toNat).map fun k => .int (k : Nat)) (e1.set c .un) = .ok (rs.map .int) ((e1.set c .un).set j (.own bb false o')) := q
  rw [h4]
  simp only [R.calm_ok, R.bind_ok, hback]
  rw [if_pos hlen]
  rfl
@[simp] theorem free_un : SS.un.free = true := rfl
@[simp] theorem free_dat (d : D) : (SS.dat d).free = true := rfl
@[simp] theorem free_own (c : OC) : (SS.own false false c).free = true := rfl
theorem exs_cons (ce : CE) (s : S) (l : List S) (e : VE) : exs ce (s :: l) e = (ex ce s e).then (exs ce l) := by rw [exs]
theorem exs_nil (ce : CE) (e : VE) : exs ce [] e = .nx e := by rw [exs]
theorem exs_nx {ce : CE} {s : S} {l : List S} {e e1 : VE} (h : ex ce s e = .nx e1) : exs ce (s :: l) e = exs ce l e1 := by rw [exs_cons, h]; rfl
theorem exs_rt {ce : CE} {s : S} {l : List S} {e e1 : VE} {r : Ret} (h : ex ce s e = .rt r e1) : exs ce (s :: l) e = .rt r e1 := by rw [exs_cons, h]; rfl
/-- a loop, by what it walks and where it ends -/
theorem ex_for {ce : CE} {G : TG} {k : Ik} {ts : List T} {b : List S} {e e0 e9 : VE} {vs : List Val} {its : List D} (h1 : (evs ce ts e).bind (itsOf k) = .ok (vs, its) e0) (h2 : forF G (exs ce b) its (lockE (vws vs) e0) = .nx e9) : ex ce (.fors G k ts b) e = .nx (unlockE e0 (vws vs) e9) := by
  rw [ex, h1]
  simp only [R.out_ok]
  rw [h2]
  rfl
/-- .. where nothing is locked -/
theorem ex_for0 {ce : CE} {G : TG} {k : Ik} {ts : List T} {b : List S} {e e0 e9 : VE} {vs : List Val} {its : List D} (h1 : (evs ce ts e).bind (itsOf k) = .ok (vs, its) e0) (hv : vws vs = []) (h2 : forF G (exs ce b) its e0 = .nx e9) : ex ce (.fors G k ts b) e = .nx e9 := by
  have h := ex_for (b := b) (G := G) h1 (e9 := e9) (by rw [hv]; exact h2)
  rw [hv] at h
  exact h
theorem forF_nil {g : TG} {b : VE → Out} {e : VE} : forF g b [] e = .nx e := rfl
theorem forF_nx {g : TG} {b : VE → Out} {d : D} {l : List D} {e e1 e2 : VE} (h1 : bindG g d e = some e1) (h2 : b e1 = .nx e2) : forF g b (d :: l) e = forF g b l e2 := by
  rw [forF, h1]
  simp only [h2]
theorem ex_set {ce : CE} {i : Nat} {t : T} {e e1 e2 : VE} {v : Val} (h1 : ev ce t e = .ok v e1) (h2 : setV i v e1 = some e2) : ex ce (.set i t) e = .nx e2 := by
  rw [ex, h1]
  simp only [R.out_ok, h2, ofX_some]
theorem setV_p {i : Nat} {d : D} {e : VE} {s : SS} (h : e[i]? = some s) (hf : s.free = true) : setV i (.p d) e = some (e.set i (.dat d)) := by
  simp [setV, putS, h, hf]
theorem setV_fr {i : Nat} {c : OC} {e : VE} {s : SS} (h : e[i]? = some s) (hf : s.free = true) : setV i (.fr c) e = some (e.set i (.own false false c)) := by
  simp [setV, putS, h, hf]
end Vd
/-! Vd24: what a text computes, told backwards (for the proofs of laws): wR, wO and their rules. -/
namespace Vd
@[irreducible] def zop2 {α : Type} (f : D → D → Option α) (x y : Val) (e : VE) : R α := op2 f x y e
@[irreducible] def zop1 {α : Type} (f : D → Option α) (x : Val) (e : VE) : R α := op1 f x e
@[irreducible] def zofO {α : Type} (o : Option α) (e : VE) : R α := ofO o e
@[irreducible] def zofP {α : Type} (o : Option (α × VE)) : R α := ofP o
@[irreducible] def zcallR (ce : CE) (f : Nat) (vs : List Val) (e : VE) : R Val := callR ce f vs e
@[irreducible] def zmfn (m : M1) (x : Val) (vs : List Val) (e : VE) : R Val := mfn m x vs e
@[irreducible] def zsetV (i : Nat) (v : Val) (e : VE) : Option VE := setV i v e
@[irreducible] def zsetVs (l : List Nat) (vs : List Val) (e : VE) : Option VE := setVs l vs e
@[irreducible] def zputS (i : Nat) (s : SS) (e : VE) : Option VE := putS i s e
@[irreducible] def zbindG (g : TG) (d : D) (e : VE) : Option VE := bindG g d e
@[irreducible] def zbindGs (l : List TG) (ds : List D) (e : VE) : Option VE := bindGs l ds e
@[irreducible] def zretV (v : Val) (e : VE) : Out := retV v e
@[irreducible] def zforF (g : TG) (b : VE → Out) (l : List D) (e : VE) : Out := forF g b l e
@[irreducible] def wR {α : Type} (r : R α) (Q : α → VE → Prop) : Prop := match r with | .ok a e => Q a e | _ => False
@[irreducible] def wO (o : Out) (N : VE → Prop) (T : Ret → VE → Prop) : Prop := match o with | .nx e => N e | .rt r e => T r e | _ => False
@[irreducible] def wX (o : Option VE) (N : VE → Prop) : Prop := match o with | some e => N e | none => False
section
variable {α β : Type} {ce : CE} {e e' : VE}
theorem wR_ok {a : α} {Q : α → VE → Prop} (h : Q a e) : wR (.ok a e) Q := by
  with_unfolding_all
    exact h
theorem wR_bind {m : R α} {f : α → VE → R β} {Q : β → VE → Prop} (h : wR m fun a e => wR (f a e) Q) : wR (m.bind f) Q := by
  with_unfolding_all
    cases m with
    | ok a e => exact h
    | rz x e => exact h.elim
    | no => exact h.elim
theorem wR_eq {m : R α} {a : α} {Q : α → VE → Prop} (h : m = .ok a e) (q : Q a e) : wR m Q := by
  with_unfolding_all
    rw [h]; exact q
theorem wR_ofO {o : Option α} {a : α} {Q : α → VE → Prop} (h : o = some a) (q : Q a e) : wR (zofO o e) Q := by
  with_unfolding_all
    rw [h]; exact q
theorem wR_mono {m : R α} {Q Q' : α → VE → Prop} (h : wR m Q) (k : ∀ a e, Q a e → Q' a e) : wR m Q' := by
  with_unfolding_all
    cases m with
    | ok a e => exact k _ _ h
    | rz x e => exact h.elim
    | no => exact h.elim
theorem wR_get {m : R α} {Q : α → VE → Prop} (h : wR m Q) : ∃ a e, m = .ok a e ∧ Q a e := by
  with_unfolding_all
    cases m with
    | ok a e => exact ⟨a, e, rfl, h⟩
    | rz x e => exact h.elim
    | no => exact h.elim
theorem wX_some {o : Option VE} {N : VE → Prop} (h : o = some e) (q : N e) : wX o N := by
  with_unfolding_all
    rw [h]; exact q
theorem wX_mono {o : Option VE} {N N' : VE → Prop} (h : wX o N) (k : ∀ e, N e → N' e) : wX o N' := by
  cases o with
  | some e => with_unfolding_all exact k e h
  | none => with_unfolding_all exact h.elim
theorem wO_out {m : R α} {f : α → VE → Out} {N : VE → Prop} {T : Ret → VE → Prop} (h : wR m fun a e => wO (f a e) N T) : wO (m.out f) N T := by
  with_unfolding_all
    cases m with
    | ok a e => exact h
    | rz x e => exact h.elim
    | no => exact h.elim
theorem wO_ofX {o : Option VE} {N : VE → Prop} {T : Ret → VE → Prop} (h : wX o N) : wO (ofX o) N T := by
  with_unfolding_all
    cases o with
    | some e => exact h
    | none => exact h.elim
theorem wO_mono {o : Out} {N N' : VE → Prop} {T T' : Ret → VE → Prop} (h : wO o N T) (k : ∀ e, N e → N' e) (k' : ∀ r e, T r e → T' r e) : wO o N' T' := by
  with_unfolding_all
    cases o with
    | nx e => exact k _ h
    | rt r e => exact k' _ _ h
    | _ => exact h.elim
theorem wO_get {o : Out} {N : VE → Prop} (h : wO o N fun _ _ => False) : ∃ e, o = .nx e ∧ N e := by
  with_unfolding_all
    cases o with
    | nx e => exact ⟨e, rfl, h⟩
    | _ => exact h.elim
/-! ### expressions -/
variable {Q : Val → VE → Prop} {QB : Bool → VE → Prop} {QL : List Val → VE → Prop} {QO : Option Int → VE → Prop}
theorem w_dat {i : Nat} {d : D} (h : e[i]? = some (.dat d)) (q : Q (.p d) e) : wR (ev ce (.var i) e) Q := by
  with_unfolding_all
    rw [ev, h]; exact q
theorem w_own {i : Nat} {b k : Bool} {c : OC} (h : e[i]? = some (.own b k c)) (q : Q (.vw i) e) : wR (ev ce (.var i) e) Q := by
  with_unfolding_all
    rw [ev, h]; exact q
theorem w_int {i : Int} (q : Q (.p (.int i)) e) : wR (ev ce (.int i) e) Q := by
  with_unfolding_all
    rw [ev]; exact q
theorem w_bl {b : Bool} (q : Q (.p (.bl b)) e) : wR (ev ce (.bl b) e) Q := by
  with_unfolding_all
    rw [ev]; exact q
theorem w_non (q : Q (.p .non) e) : wR (ev ce .non e) Q := by
  with_unfolding_all
    rw [ev]; exact q
theorem w_str {l : List Nat} (q : Q (.p (.str l)) e) : wR (ev ce (.str l) e) Q := by
  with_unfolding_all
    rw [ev]; exact q
theorem w_con {k : Nat} (q : Q (.p (ce.con k)) e) : wR (ev ce (.con k) e) Q := by
  with_unfolding_all
    rw [ev]; exact q
theorem w_bin {o : O2} {a b : T} (h : wR (ev ce a e) fun x e => wR (ev ce b e) fun y e => wR (zop2 (bop o) x y e) Q) : wR (ev ce (.bin o a b) e) Q := by
  with_unfolding_all
    rw [ev]; exact wR_bind (wR_mono h fun _ _ h => wR_bind h)
theorem w_cmp {o : Cq} {a b : T} (h : wR (ev ce a e) fun x e => wR (ev ce b e) fun y e => wR (zop2 (cop o) x y e) fun t e => Q (blV t) e) : wR (ev ce (.cmp o a b) e) Q := by
  with_unfolding_all
    rw [ev]; exact wR_bind (wR_mono h fun _ _ h => wR_bind (wR_mono h fun _ _ h => wR_bind h))
theorem w_neg {a : T} (h : wR (ev ce a e) fun x e => wR (zop1 negOf x e) Q) : wR (ev ce (.neg a) e) Q := by
  with_unfolding_all
    rw [ev]; exact wR_bind h
theorem w_not {a : T} (h : wR (ev ce a e) fun x e => wR (zop1 boolOf x e) fun t e => Q (blV (!t)) e) : wR (ev ce (.not a) e) Q := by
  with_unfolding_all
    rw [ev]; exact wR_bind (wR_mono h fun _ _ h => wR_bind h)
theorem w_ite {c a b : T} (h : wR (evT ce c e) fun t e => if t = true then wR (ev ce a e) Q else wR (ev ce b e) Q) : wR (ev ce (.ite c a b) e) Q := by
  with_unfolding_all
    rw [ev]; refine wR_bind (wR_mono h fun t _ h => ?_)
    cases t <;> exact h
theorem w_and {a b : T} (h : wR (ev ce a e) fun x e => wR (zop1 boolOf x e) fun t e => if t = true then wR (ev ce b e) Q else Q (blV false) e) : wR (ev ce (.and a b) e) Q := by
  with_unfolding_all
    rw [ev]; refine wR_bind (wR_mono h fun _ _ h => wR_bind (wR_mono h fun t _ h => ?_))
    cases t <;> exact h
theorem w_or {a b : T} (h : wR (ev ce a e) fun x e => wR (zop1 boolOf x e) fun t e => if t = true then Q (blV true) e else wR (ev ce b e) Q) : wR (ev ce (.or a b) e) Q := by
  with_unfolding_all
    rw [ev]; refine wR_bind (wR_mono h fun _ _ h => wR_bind (wR_mono h fun t _ h => ?_))
    cases t <;> exact h
theorem w_chn {o p : Cq} {a b c : T} (h : wR (ev ce a e) fun x e => wR (ev ce b e) fun y e => wR (zop2 (cop o) x y e) fun t e => if t = true then wR (ev ce c e) fun z e => wR (zop2 (cop p) y z e) fun t e => Q (blV t) e else Q (blV false) e) : wR (ev ce (.chn o p a b c) e) Q := by
  with_unfolding_all
    rw [ev]; refine wR_bind (wR_mono h fun _ _ h => wR_bind (wR_mono h fun _ _ h => wR_bind (wR_mono h fun t _ h => ?_)))
    cases t
    · exact h
    · exact wR_bind (wR_mono h fun _ _ h => wR_bind h)
theorem w_tup {l : List T} (h : wR (evs ce l e) fun vs e => wR (zofP ((fzs vs e).bind short)) fun ds e => Q (.p (.tup ds)) e) : wR (ev ce (.tup l) e) Q := by
  with_unfolding_all
    rw [ev]; exact wR_bind (wR_mono h fun _ _ h => wR_bind h)
theorem w_lst {l : List T} (h : wR (evs ce l e) fun vs e => wR (zofP ((fzs vs e).bind short)) fun ds e => Q (.fr (.ol ds)) e) : wR (ev ce (.lst l) e) Q := by
  with_unfolding_all
    rw [ev]; exact wR_bind (wR_mono h fun _ _ h => wR_bind h)
theorem w_ix {a b : T} (h : wR (ev ce a e) fun x e => wR (ev ce b e) fun y e => wR (zop2 item x y e) fun d e => Q (.p d) e) : wR (ev ce (.ix a b) e) Q := by
  with_unfolding_all
    rw [ev]; exact wR_bind (wR_mono h fun _ _ h => wR_bind (wR_mono h fun _ _ h => wR_bind h))
theorem w_rvl {a : T} (h : wR (ev ce a e) fun x e => wR (zop1 revF x e) Q) : wR (ev ce (.rvl a) e) Q := by
  with_unfolding_all
    rw [ev]; exact wR_bind h
theorem w_sl {a : T} {lo hi : Option T} (h : wR (ev ce a e) fun x e => wR (evo ce lo e) fun l e => wR (evo ce hi e) fun u e => wR (zop1 (fun x => slice x l u) x e) Q) : wR (ev ce (.sl a lo hi) e) Q := by
  with_unfolding_all
    rw [ev]; exact wR_bind (wR_mono h fun _ _ h => wR_bind (wR_mono h fun _ _ h => wR_bind h))
theorem w_call {f : Nat} {l : List T} (h : wR (evs ce l e) fun vs e => wR (zcallR ce f vs e) Q) : wR (ev ce (.call f l) e) Q := by
  with_unfolding_all
    rw [ev]; exact wR_bind h
theorem w_bi {b : B1} {l : List T} (h : wR (evs ce l e) fun vs e => wR (zofO ((rds e vs).bind fun ds => bfn b ds) e) Q) : wR (ev ce (.bi b l) e) Q := by
  with_unfolding_all
    rw [ev]; exact wR_bind h
theorem w_mt {m : M1} {a : T} {l : List T} (h : wR (ev ce a e) fun x e => wR (zop1 (mOk m) x e) fun _ e => wR (evs ce l e) fun vs e => wR (zmfn m x vs e) Q) : wR (ev ce (.mt m a l) e) Q := by
  with_unfolding_all
    rw [ev]; exact wR_bind (wR_mono h fun _ _ h => wR_bind (wR_mono h fun _ _ h => wR_bind h))
theorem w_pm {m : Pm} {a : T} {l : List T} (h : wR (ev ce a e) fun x e => wR (zop1 strO x e) fun _ e => wR (evs ce l e) fun vs e => wR (zofO ((rd e x).bind fun d => (rds e vs).bind fun ds => pfn m d ds) e) Q) : wR (ev ce (.pm m a l) e) Q := by
  with_unfolding_all
    rw [ev]; exact wR_bind (wR_mono h fun _ _ h => wR_bind (wR_mono h fun _ _ h => wR_bind h))
theorem w_isi {a : T} {ts : List Ty} (h : wR (ev ce a e) fun x e => wR (zop1 (fun d => (isTys d ts).map blV) x e) Q) : wR (ev ce (.isi a ts) e) Q := by
  with_unfolding_all
    rw [ev]; exact wR_bind h
theorem ws_nil (q : QL [] e) : wR (evs ce [] e) QL := by
  with_unfolding_all
    rw [evs]; exact q
theorem ws_cons {t : T} {l : List T} (h : wR (ev ce t e) fun v e => wR (evs ce l e) fun r e => QL (v :: r) e) : wR (evs ce (t :: l) e) QL := by
  with_unfolding_all
    rw [evs]; exact wR_bind (wR_mono h fun _ _ h => wR_bind h)
theorem wo_none (q : QO none e) : wR (evo ce none e) QO := by
  with_unfolding_all
    rw [evo]; exact q
theorem wo_some {t : T} (h : wR (ev ce t e) fun v e => wR (zop1 partOf v e) fun i e => QO (some i) e) : wR (evo ce (some t) e) QO := by
  with_unfolding_all
    rw [evo]; exact wR_bind (wR_mono h fun _ _ h => wR_bind h)
theorem wt_and {a b : T} (h : wR (evT ce a e) fun t e => if t = true then wR (evT ce b e) QB else QB false e) : wR (evT ce (.and a b) e) QB := by
  with_unfolding_all
    rw [evT]; refine wR_bind (wR_mono h fun t _ h => ?_)
    cases t <;> exact h
theorem wt_or {a b : T} (h : wR (evT ce a e) fun t e => if t = true then QB true e else wR (evT ce b e) QB) : wR (evT ce (.or a b) e) QB := by
  with_unfolding_all
    rw [evT]; refine wR_bind (wR_mono h fun t _ h => ?_)
    cases t <;> exact h
theorem wt_not {a : T} (h : wR (evT ce a e) fun t e => QB (!t) e) : wR (evT ce (.not a) e) QB := by
  with_unfolding_all
    rw [evT]; exact wR_bind h
def valT : T → Bool
  | .and _ _ => false
  | .or _ _ => false
  | .not _ => false
  | _ => true
theorem wt_val {t : T} (hne : valT t = true) (h : wR (ev ce t e) fun x e => wR (zop1 tru x e) QB) : wR (evT ce t e) QB := by
  with_unfolding_all
    have : evT ce t e = (ev ce t e).bind fun x e => op1 tru x e := by
      cases t <;> first | (cases hne; done) | (rw [evT] <;> intros <;> simp_all)
    rw [this]; exact wR_bind h
/-! ### statements -/
variable {N : VE → Prop} {R : Ret → VE → Prop}
theorem w_nil (h : N e) : wO (exs ce [] e) N R := by
  with_unfolding_all
    rw [exs]; exact h
theorem w_cons {s : S} {l : List S} (h : wO (ex ce s e) (fun e => wO (exs ce l e) N R) R) : wO (exs ce (s :: l) e) N R := by
  with_unfolding_all
    rw [exs]
    cases q : ex ce s e with
    | nx e1 => rw [q] at h; exact h
    | rt r e1 => rw [q] at h; exact h
    | _ => rw [q] at h; exact h.elim
theorem w_set {i : Nat} {t : T} (h : wR (ev ce t e) fun v e => wX (zsetV i v e) N) : wO (ex ce (.set i t) e) N R := by
  with_unfolding_all
    rw [ex]; exact wO_out (wR_mono h fun _ _ h => wO_ofX h)
theorem w_par {is : List Nat} {ts : List T} (h : wR (evs ce ts e) fun vs e => wR (zofP (fzVs vs e)) fun vs e => wX (zsetVs is vs e) N) : wO (ex ce (.par is ts) e) N R := by
  with_unfolding_all
    rw [ex]; exact wO_out (wR_mono h fun _ _ h => wO_out (wR_mono h fun _ _ h => wO_ofX h))
theorem w_unp {g : TG} {t : T} (h : wR (ev ce t e) fun v e => wR (zofP (fz e v)) fun d e => wX (zbindG g d e) N) : wO (ex ce (.unp g t) e) N R := by
  with_unfolding_all
    rw [ex]; exact wO_out (wR_mono h fun _ _ h => wO_out (wR_mono h fun _ _ h => wO_ofX h))
theorem w_sub {a i t : T} (h : wR (ev ce t e) fun v e => wR (ev ce a e) fun x e => wR (ev ce i e) fun y e => wX (subV x y v e) N) : wO (ex ce (.sub a i t) e) N R := by
  with_unfolding_all
    rw [ex]; exact wO_out (wR_mono h fun _ _ h => wO_out (wR_mono h fun _ _ h => wO_out (wR_mono h fun _ _ h => wO_ofX h)))
theorem w_exp {t : T} (h : wR (ev ce t e) fun _ e => N e) : wO (ex ce (.exp t) e) N R := by
  with_unfolding_all
    rw [ex]; exact wO_out h
theorem w_ret {t : T} (h : wR (ev ce t e) fun v e => wO (zretV v e) N R) : wO (ex ce (.ret t) e) N R := by
  with_unfolding_all
    rw [ex]; exact wO_out h
theorem w_ifs {c : T} {a b : List S} (h : wR (evT ce c e) fun t e => if t = true then wO (exs ce a e) N R else wO (exs ce b e) N R) : wO (ex ce (.ifs c a b) e) N R := by
  with_unfolding_all
    rw [ex]; refine wO_out (wR_mono h fun t _ h => ?_)
    cases t <;> exact h
theorem w_pas (h : N e) : wO (ex ce .pas e) N R := by
  with_unfolding_all
    rw [ex]; exact h
/-- a walk of known items: what holds ahead of each turn; no turn leaves the loop -/
theorem w_fors {g : TG} {k : Ik} {l : List T} {b : List S} (h : wR ((evs ce l e).bind (itsOf k)) fun p e0 => wO (zforF g (exs ce b) p.2 (lockE (vws p.1) e0)) (fun e => N (unlockE e0 (vws p.1) e)) fun r e => R r (unlockE e0 (vws p.1) e)) : wO (ex ce (.fors g k l b) e) N R := by
  rw [ex]; refine wO_out (wR_mono h fun p e0 h => ?_)
  unfold zforF at h
  cases q : forF g (exs ce b) p.2 (lockE (vws p.1) e0) with
  | nx e1 => rw [q] at h; with_unfolding_all exact h
  | rt r e1 => rw [q] at h; with_unfolding_all exact h
  | _ => rw [q] at h; with_unfolding_all exact h.elim
theorem w_for_nil {g : TG} {b : VE → Out} (h : N e) : wO (zforF g b [] e) N R := by
  with_unfolding_all
    exact h
theorem w_for_cons {g : TG} {b : VE → Out} {d : D} {l : List D} (h : wX (zbindG g d e) fun e => wO (b e) (fun e => wO (zforF g b l e) N R) R) : wO (zforF g b (d :: l) e) N R := by
  unfold zforF zbindG at h
  unfold zforF forF
  cases q : bindG g d e with
  | none => rw [q] at h; with_unfolding_all exact h.elim
  | some e1 =>
    rw [q] at h
    have h' : wO (b e1) (fun e => wO (forF g b l e) N R) R := by with_unfolding_all exact h
    dsimp only
    cases q2 : b e1 with
    | nx e2 => rw [q2] at h'; with_unfolding_all exact h'
    | rt r e2 => rw [q2] at h'; with_unfolding_all exact h'
    | _ => rw [q2] at h'; with_unfolding_all exact h'.elim
/-- with an invariant -/
theorem w_for_inv {g : TG} {b : VE → Out} (I : List D → VE → Prop) (stop : ∀ e, I [] e → N e) (turn : ∀ d l e, I (d :: l) e → wX (zbindG g d e) fun e => wO (b e) (I l) R) : ∀ (l : List D) (e : VE), I l e → wO (zforF g b l e) N R
  | [], e, h => w_for_nil (stop e h)
  | d :: l, e, h => w_for_cons (wX_mono (turn d l e h) fun e1 t => wO_mono t (fun e2 h2 => w_for_inv I stop turn l e2 h2) fun _ _ h => h)
/-- a def's promise from its body -/
theorem run_of {n : Nat} {b : List S} {as : List Arg} {P : Ret → List Arg → Prop} (h : wO (exs ce b (as.map Arg.ss ++ List.replicate (n - as.length) .un)) (fun e => ∃ l, backA as e = some l ∧ P (.p .non) l) fun r e => ∃ l, backA as e = some l ∧ P r l) : ∃ r l, runF ce n b as = .ok r l ∧ P r l := by
  unfold runF
  cases q : exs ce b (as.map Arg.ss ++ List.replicate (n - as.length) .un) with
  | nx e1 =>
    rw [q] at h
    have h : ∃ l, backA as e1 = some l ∧ P (.p .non) l := by with_unfolding_all exact h
    obtain ⟨l, h1, h2⟩ := h
    exact ⟨_, l, by simp [runO, h1], h2⟩
  | rt r e1 =>
    rw [q] at h
    have h : ∃ l, backA as e1 = some l ∧ P r l := by with_unfolding_all exact h
    obtain ⟨l, h1, h2⟩ := h
    exact ⟨_, l, by simp [runO, h1], h2⟩
  | _ => rw [q] at h; with_unfolding_all exact h.elim
end
end Vd
/-! Vd25: the tactic w1: one rule of Vd24 at the head of the goal; wk: as many as go. -/
namespace Vd
section
variable {α β : Type} {ce : CE} {e e' : VE}
theorem w_op2 {f : D → D → Option α} {x y : Val} {d d' : D} {a : α} {Q : α → VE → Prop} (h1 : rd e x = some d) (h2 : rd e y = some d') (h3 : f d d' = some a) (q : Q a e) : wR (zop2 f x y e) Q := by
  with_unfolding_all
    try unfold zop2 at h
    try unfold zop2
    unfold op2; rw [h1, h2]; show wR (ofO (f d d') e) Q; rw [h3]; exact q
theorem w_op1 {f : D → Option α} {x : Val} {d : D} {a : α} {Q : α → VE → Prop} (h1 : rd e x = some d) (h3 : f d = some a) (q : Q a e) : wR (zop1 f x e) Q := by
  with_unfolding_all
    try unfold zop1 at h
    try unfold zop1
    unfold op1; rw [h1]; show wR (ofO (f d) e) Q; rw [h3]; exact q
theorem w_bfn {b : B1} {vs : List Val} {ds : List D} {v : Val} {Q : Val → VE → Prop} (h1 : rds e vs = some ds) (h2 : bfn b ds = some v) (q : Q v e) : wR (zofO ((rds e vs).bind fun ds => bfn b ds) e) Q := by
  with_unfolding_all
    try unfold zofO at h
    try unfold zofO
    rw [h1]; show wR (ofO (bfn b ds) e) Q; rw [h2]; exact q
theorem w_pfn {m : Pm} {x : Val} {vs : List Val} {d : D} {ds : List D} {v : Val} {Q : Val → VE → Prop} (h0 : rd e x = some d) (h1 : rds e vs = some ds) (h2 : pfn m d ds = some v) (q : Q v e) : wR (zofO ((rd e x).bind fun d => (rds e vs).bind fun ds => pfn m d ds) e) Q := by
  with_unfolding_all
    try unfold zofO at h
    try unfold zofO
    rw [h0, h1]; show wR (ofO (pfn m d ds) e) Q; rw [h2]; exact q
theorem lenOk {l : List D} (h : Nat.ble l.length 1000 = true) : l.length ≤ line := by
  with_unfolding_all
    exact Nat.le_trans (Nat.le_of_ble_eq_true h) (by decide)
theorem w_fzs {vs : List Val} {ds : List D} {Q : List D → VE → Prop} (h1 : fzs vs e = some (ds, e')) (h2 : ds.length ≤ line) (q : Q ds e') : wR (zofP ((fzs vs e).bind short)) Q := by
  with_unfolding_all
    try unfold zofP at h
    try unfold zofP
    rw [h1]; show wR (ofP (short (ds, e'))) Q
    unfold short
    rw [if_pos h2]; exact q
theorem w_fz {v : Val} {d : D} {Q : D → VE → Prop} (h1 : fz e v = some (d, e')) (q : Q d e') : wR (zofP (fz e v)) Q := by
  with_unfolding_all
    try unfold zofP at h
    try unfold zofP
    rw [h1]; exact q
theorem w_fzVs {vs vs' : List Val} {Q : List Val → VE → Prop} (h1 : fzVs vs e = some (vs', e')) (q : Q vs' e') : wR (zofP (fzVs vs e)) Q := by
  with_unfolding_all
    try unfold zofP at h
    try unfold zofP
    rw [h1]; exact q
theorem w_con' {k : Nat} {d : D} {Q : Val → VE → Prop} (h : ce.con k = d) (q : Q (.p d) e) : wR (ev ce (.con k) e) Q := by
  with_unfolding_all
    rw [ev, h]; exact q
theorem w_mul {x y : Val} {i j : Int} {Q : Val → VE → Prop} (h1 : rd e x = some (.int i)) (h2 : rd e y = some (.int j)) (h3 : (-big < i ∧ i < big) ∨ (-big < j ∧ j < big)) (q : Q (.p (.int (i * j))) e) : wR (zop2 (bop .mul) x y e) Q := by
  with_unfolding_all
    try unfold zop2 at h
    try unfold zop2
    exact w_op2 h1 h2 (by simp [bop, h3]) q
theorem w_mod {x y : Val} {i j : Int} {Q : Val → VE → Prop} (h1 : rd e x = some (.int i)) (h2 : rd e y = some (.int j)) (h3 : 0 < j) (q : Q (.p (.int (i % j))) e) : wR (zop2 (bop .mod) x y e) Q := by
  with_unfolding_all
    try unfold zop2 at h
    try unfold zop2
    exact w_op2 h1 h2 (by simp [bop, h3]) q
theorem w_fdiv {x y : Val} {i j : Int} {Q : Val → VE → Prop} (h1 : rd e x = some (.int i)) (h2 : rd e y = some (.int j)) (h3 : 0 < j ∧ j < 1073741824) (q : Q (.p (.int (i / j))) e) : wR (zop2 (bop .fdiv) x y e) Q := by
  with_unfolding_all
    try unfold zop2 at h
    try unfold zop2
    exact w_op2 h1 h2 (by simp [bop, h3]) q
theorem w_call1 {f : Nat} {vs : List Val} {as l : List Arg} {r : Ret} {Q : Val → VE → Prop} (h0 : (vws vs).Nodup) (h1 : argsOf e vs = some as) (h2 : ce.fn f as = .ok r l) (q : Q r.val (putA vs l e)) : wR (zcallR ce f vs e) Q := by
  with_unfolding_all
    try unfold zcallR at h
    try unfold zcallR
    unfold callR; rw [if_pos h0, h1]; dsimp only; rw [h2]; exact q
theorem w_its {ts : List T} {k : Ik} {Q : List Val × List D → VE → Prop} (h : wR (evs ce ts e) fun vs e => wR (zofO (((rds e vs).bind fun ds => itOf k ds).map fun its => (vs, its)) e) Q) : wR ((evs ce ts e).bind (itsOf k)) Q := by
  with_unfolding_all
    try unfold zofO at h
    try unfold zofO
    exact wR_bind h
theorem w_it {vs : List Val} {k : Ik} {ds its : List D} {Q : List Val × List D → VE → Prop} (h1 : rds e vs = some ds) (h2 : itOf k ds = some its) (q : Q (vs, its) e) : wR (zofO (((rds e vs).bind fun ds => itOf k ds).map fun its => (vs, its)) e) Q := by
  with_unfolding_all
    try unfold zofO at h
    try unfold zofO
    rw [h1]; show wR (ofO ((itOf k ds).map _) e) Q; rw [h2]; exact q
theorem w_put {i : Nat} {s s0 : SS} {N : VE → Prop} (h : e[i]? = some s0) (hf : s0.free = true) (q : N (e.set i s)) : wX (zputS i s e) N := by
  with_unfolding_all
    try unfold zputS at h
    try unfold zputS
    unfold putS; rw [h]; show wX (if s0.free = true then _ else _) N
    rw [if_pos hf]; exact q
theorem w_setp {i : Nat} {d : D} {s0 : SS} {N : VE → Prop} (h : e[i]? = some s0) (hf : s0.free = true) (q : N (e.set i (.dat d))) : wX (zsetV i (.p d) e) N := by
  with_unfolding_all
    try unfold zsetV at h
    try unfold zsetV
    exact w_put h hf q
theorem w_setf {i : Nat} {c : OC} {s0 : SS} {N : VE → Prop} (h : e[i]? = some s0) (hf : s0.free = true) (q : N (e.set i (.own false false c))) : wX (zsetV i (.fr c) e) N := by
  with_unfolding_all
    try unfold zsetV at h
    try unfold zsetV
    exact w_put h hf q
theorem w_bind_nm {i : Nat} {d : D} {s0 : SS} {N : VE → Prop} (h : e[i]? = some s0) (hf : s0.free = true) (q : N (e.set i (.dat d))) : wX (zbindG (.nm i) d e) N := by
  with_unfolding_all
    try unfold zbindG at h
    try unfold zbindG
    exact w_put h hf q
theorem w_retp {d : D} {N : VE → Prop} {R : Ret → VE → Prop} (q : R (.p d) e) : wO (zretV (.p d) e) N R := by
  with_unfolding_all
    try unfold zretV at h
    try unfold zretV
    exact q
theorem w_retf {c : OC} {N : VE → Prop} {R : Ret → VE → Prop} (q : R (.fr c) e) : wO (zretV (.fr c) e) N R := by
  with_unfolding_all
    try unfold zretV at h
    try unfold zretV
    exact q
theorem w_reto {i : Nat} {c : OC} {N : VE → Prop} {R : Ret → VE → Prop} (h : e[i]? = some (.own false false c)) (q : R (.fr c) (e.set i .un)) : wO (zretV (.vw i) e) N R := by
  with_unfolding_all
    try unfold zretV at h
    try unfold zretV
    unfold retV; dsimp only; rw [h]; exact q
theorem w_draw {f : Nat} (hF : Draws (ce.fn f)) {j : Nat} {bb : Bool} {cs : List Int} {n : Nat} {o : OC} {b : Int} {Q : Val → VE → Prop} (hj : e[j]? = some (.own bb false o)) (D : DS cs n o) (hn : n < 2 ^ 61) (hb : 0 < b) (hb2 : b < 1073741824)
    (q : ∀ r o', DS cs (n + 1) o' → 0 ≤ r → r < b → Q (.p (.int r)) (e.set j (.own bb false o'))) : wR (zcallR ce f [.vw j, .p (.int b)] e) Q := by
  with_unfolding_all
    try unfold zcallR at h
    try unfold zcallR
    obtain ⟨r, o', h1, h2, h3, h4⟩ := draw_call hF hj D hn hb hb2
    rw [h1]
    exact q r o' h2 h3 h4
theorem w_append {i : Nat} {v : Val} {d : D} {b : Bool} {l : List D} {Q : Val → VE → Prop} (h1 : fz e v = some (d, e')) (h2 : e'[i]? = some (.own b false (.ol l))) (h3 : l.length < line) (q : Q (.p .non) (e'.set i (.own b false (.ol (l ++ [d]))))) : wR (zmfn .append (.vw i) [v] e) Q := by
  with_unfolding_all
    try unfold zmfn at h
    try unfold zmfn
    simp only [mfn, h1, ofP_some, R.bind_ok, h2, if_pos h3]; exact q
theorem w_insert {i : Nat} {k : Int} {v : Val} {d : D} {b : Bool} {l : List D} {Q : Val → VE → Prop} (h1 : fz e v = some (d, e')) (h2 : e'[i]? = some (.own b false (.ol l))) (h3 : l.length < line) (h4 : 0 ≤ k) (h5 : k < 2 ^ 63) (q : Q (.p .non) (e'.set i (.own b false (.ol (l.take k.toNat ++ [d] ++ l.drop k.toNat))))) : wR (zmfn .insert (.vw i) [.p (.int k), v] e) Q := by
  with_unfolding_all
    try unfold zmfn at h
    try unfold zmfn
    have h : l.length < line ∧ 0 ≤ k ∧ k < 2 ^ 63 := ⟨h3, h4, h5⟩
    simp only [mfn, h1, ofP_some, R.bind_ok, h2, if_pos h]; exact q
theorem w_extend {i : Nat} {v : Val} {b : Bool} {l m : List D} {Q : Val → VE → Prop} (h1 : e[i]? = some (.own b false (.ol l))) (h2 : rd e v = some (.lst m)) (h3 : l.length + m.length ≤ line) (q : Q (.p .non) (e.set i (.own b false (.ol (l ++ m))))) : wR (zmfn .extend (.vw i) [v] e) Q := by
  with_unfolding_all
    try unfold zmfn at h
    try unfold zmfn
    simp only [mfn, h1, h2, if_pos h3]; exact q
theorem w_pop {i : Nat} {b : Bool} {l : List D} {d : D} {Q : Val → VE → Prop} (h1 : e[i]? = some (.own b false (.ol l))) (h2 : l.getLast? = some d) (q : Q (.p d) (e.set i (.own b false (.ol l.dropLast)))) : wR (zmfn .pop (.vw i) [] e) Q := by
  with_unfolding_all
    try unfold zmfn at h
    try unfold zmfn
    simp only [mfn, h1, h2]; exact q
theorem w_bind_tp {gs : List TG} {l : List D} {N : VE → Prop} (h : wX (zbindGs gs l e) N) : wX (zbindG (.tp gs) (.tup l) e) N := by
  with_unfolding_all
    try unfold zbindG at h
    try unfold zbindG
    try unfold zbindGs at h
    try unfold zbindGs
    rw [bindG]; exact h
theorem w_bs_nil {N : VE → Prop} (h : N e) : wX (zbindGs [] [] e) N := by
  with_unfolding_all
    try unfold zbindGs at h
    try unfold zbindGs
    rw [bindGs]; exact h
theorem w_bs_cons {g : TG} {gs : List TG} {d : D} {l : List D} {N : VE → Prop} (h : wX (zbindG g d e) fun e => wX (zbindGs gs l e) N) : wX (zbindGs (g :: gs) (d :: l) e) N := by
  with_unfolding_all
    try unfold zbindG at h
    try unfold zbindG
    try unfold zbindGs at h
    try unfold zbindGs
    rw [bindGs]
    cases q : bindG g d e with
    | none => rw [q] at h; exact h
    | some e1 => rw [q] at h; exact h
theorem w_sv_nil {N : VE → Prop} (h : N e) : wX (zsetVs [] [] e) N := by
  with_unfolding_all
    try unfold zsetVs at h
    try unfold zsetVs
    rw [setVs]; exact h
theorem w_sv_cons {i : Nat} {is : List Nat} {v : Val} {vs : List Val} {N : VE → Prop} (h : wX (zsetV i v e) fun e => wX (zsetVs is vs e) N) : wX (zsetVs (i :: is) (v :: vs) e) N := by
  with_unfolding_all
    try unfold zsetV at h
    try unfold zsetV
    try unfold zsetVs at h
    try unfold zsetVs
    rw [setVs]
    cases q : setV i v e with
    | none => rw [q] at h; exact h
    | some e1 => rw [q] at h; exact h
/-! bodies of loops that continue or break -/
end
@[irreducible] def wC (o : Out) (N : VE → Prop) (T : Ret → VE → Prop) (C B : VE → Prop) : Prop := match o with | .nx e => N e | .rt r e => T r e | .ct e => C e | .bk e => B e | _ => False
section
variable {ce : CE} {e : VE} {N C B : VE → Prop} {R : Ret → VE → Prop}
theorem c_nil (h : N e) : wC (exs ce [] e) N R C B := by
  with_unfolding_all
    rw [exs]; exact h
theorem c_cons {s : S} {l : List S} (h : wC (ex ce s e) (fun e => wC (exs ce l e) N R C B) R C B) : wC (exs ce (s :: l) e) N R C B := by
  with_unfolding_all
    rw [exs]
    cases q : ex ce s e with
    | nx e1 => rw [q] at h; exact h
    | rt r e1 => rw [q] at h; exact h
    | ct e1 => rw [q] at h; exact h
    | bk e1 => rw [q] at h; exact h
    | _ => rw [q] at h; exact h.elim
theorem c_cnt (h : C e) : wC (ex ce .cnt e) N R C B := by
  with_unfolding_all
    rw [ex]; exact h
theorem c_brk (h : B e) : wC (ex ce .brk e) N R C B := by
  with_unfolding_all
    rw [ex]; exact h
theorem c_ifs {c : T} {a b : List S} (h : wR (evT ce c e) fun t e => if t = true then wC (exs ce a e) N R C B else wC (exs ce b e) N R C B) : wC (ex ce (.ifs c a b) e) N R C B := by
  with_unfolding_all
    rw [ex]
    obtain ⟨t, e1, q, h⟩ := wR_get h
    rw [q]
    cases t <;> exact h
theorem c_ex {s : S} (h : wO (ex ce s e) N R) : wC (ex ce s e) N R C B := by
  with_unfolding_all
    cases q : ex ce s e with
    | nx e1 => rw [q] at h; exact h
    | rt r e1 => rw [q] at h; exact h
    | _ => rw [q] at h; exact h.elim
theorem c_exs {l : List S} (h : wO (exs ce l e) N R) : wC (exs ce l e) N R C B := by
  with_unfolding_all
    cases q : exs ce l e with
    | nx e1 => rw [q] at h; exact h
    | rt r e1 => rw [q] at h; exact h
    | _ => rw [q] at h; exact h.elim
/-- an invariant of a loop that may continue or break -/
theorem w_for_invC {g : TG} {b : VE → Out} (I : List D → VE → Prop) (stop : ∀ e, I [] e → N e) (turn : ∀ d l e, I (d :: l) e → wX (zbindG g d e) fun e => wC (b e) (I l) R (I l) N) : ∀ (l : List D) (e : VE), I l e → wO (zforF g b l e) N R
  | [], e, h => by with_unfolding_all exact stop e h
  | d :: l, e, h => by
      have t := turn d l e h
      have ih := fun e2 h2 => w_for_invC I stop turn l e2 h2
      unfold zbindG at t
      unfold zforF at ih
      unfold zforF forF
      cases q : bindG g d e with
      | none => rw [q] at t; with_unfolding_all exact t.elim
      | some e1 =>
        rw [q] at t
        have t' : wC (b e1) (I l) R (I l) N := by with_unfolding_all exact t
        dsimp only
        cases q2 : b e1 with
        | nx e2 => rw [q2] at t'; exact ih e2 (by with_unfolding_all exact t')
        | ct e2 => rw [q2] at t'; exact ih e2 (by with_unfolding_all exact t')
        | bk e2 => rw [q2] at t'; with_unfolding_all exact t'
        | rt r e2 => rw [q2] at t'; with_unfolding_all exact t'
        | _ => rw [q2] at t'; with_unfolding_all exact t'.elim
end
end Vd
/-! Vd26: comprehensions, told backwards. -/
namespace Vd
section
variable {ce : CE} {e : VE}
theorem wX_some' {e : VE} {N : VE → Prop} (h : wX (some e) N) : N e := by with_unfolding_all exact h
theorem wX_none' {N : VE → Prop} (h : wX none N) : False := by with_unfolding_all exact h
theorem wO_nx {e : VE} {N : VE → Prop} {T : Ret → VE → Prop} (h : wO (.nx e) N T) : N e := by with_unfolding_all exact h
theorem wO_rt {r : Ret} {e : VE} {N : VE → Prop} {T : Ret → VE → Prop} (h : wO (.rt r e) N T) : T r e := by with_unfolding_all exact h
theorem block_env {own ws : List Nat} {e0 : VE} : unlockE e0 ws (backE e0 own (wipeE own (lockE ws e0))) = e0 := by
  with_unfolding_all
    apply List.ext_getElem?
    intro j
    rw [unlockE_at, backE_at, wipeE_at, lockE_at]
    cases q : e0[j]? with
    | none => by_cases h1 : j ∈ ws <;> by_cases h2 : j ∈ own <;> simp [h1, h2]
    | some s =>
      by_cases h1 : j ∈ ws <;> by_cases h2 : j ∈ own <;> simp [h1, h2]
      · cases s <;> simp [SS.lock, SS.lk]
      · cases s <;> simp [SS.lock, SS.lk]
/-- the turns of a comprehension that leaves the rest as it is -/
theorem lcF_pure {f : D → VE → R (Option D)} {fD : D → Option D} {E : VE} : ∀ (l : List D), (∀ d ∈ l, f d E = .ok (fD d) E) → lcF f l E = .ok (l.filterMap fD) E
  | [], _ => rfl
  | d :: l, h => by
    rw [lcF, h d List.mem_cons_self]
    simp only [R.bind_ok]
    rw [lcF_pure l fun x hx => h x (List.mem_cons_of_mem _ hx)]
    simp only [R.bind_ok, List.filterMap_cons]
    cases fD d <;> rfl
def fzP : Val → Option D
  | .p d => some d
  | .fr c => some c.toD
  | .vw _ => none
theorem fz_p {v : Val} {d : D} (h : fzP v = some d) (e : VE) : fz e v = some (d, e) := by
  with_unfolding_all
    cases v with
    | p x => cases h; rfl
    | fr c => cases h; rfl
    | vw i => cases h
theorem w_lc {t : T} {G : TG} {k : Ik} {ts : List T} {c : Option T} {own : List Nat} (fD : D → Option D) {Q : Val → VE → Prop}
    (h : wR ((evs ce ts e).bind (itsOf k)) fun p e0 =>
      (∀ d ∈ p.2, wX (zbindG G d (wipeE own (lockE (vws p.1) e0))) fun e1 => wipeE own e1 = wipeE own (lockE (vws p.1) e0) ∧ wR (evc ce c e1) fun b e2 => e2 = e1 ∧ if b = true then wR (ev ce t e1) (fun v e3 => e3 = e1 ∧ ∃ d', fzP v = some d' ∧ fD d = some d') else fD d = none) ∧ p.2.length ≤ line ∧ Q (.fr (.ol (p.2.filterMap fD))) e0) : wR (ev ce (.lc t G k ts c own) e) Q := by
  with_unfolding_all
    try unfold zbindG at h
    try unfold zbindG
    rw [ev]
    obtain ⟨p, e0, h1, h2, h3, h4⟩ := wR_get h
    rw [h1]
    simp only [R.bind_ok]
    have key := lcF_pure (f := fun d e => (ofO (bindG G d e) e).bind fun e' _ => (evc ce c e').bind fun b e => if b = true then (ev ce t e).bind fun v e => (ofP (fz e v)).bind fun d e => .ok (some d) (wipeE own e) else .ok none (wipeE own e)) (fD := fD) (E := wipeE own (lockE (vws p.1) e0)) p.2 (fun d hd => by
      have t2 := h2 d hd
      cases q : bindG G d (wipeE own (lockE (vws p.1) e0)) with
      | none => rw [q] at t2; exact t2.elim
      | some e1 =>
        rw [q] at t2
        obtain ⟨w1, w2⟩ := wX_some' t2
        obtain ⟨b, e2, q2, rfl, w3⟩ := wR_get w2
        simp only [ofO_some, R.bind_ok, q2]
        cases b with
        | false => rw [if_neg (by decide), w1]; rw [if_neg (by decide)] at w3; rw [w3]
        | true =>
          rw [if_pos rfl] at w3 ⊢
          obtain ⟨v, e3, q3, rfl, d', z1, z2⟩ := wR_get w3
          rw [q3]
          simp only [R.bind_ok, fz_p z1, ofP_some, w1, z2])
    rw [key]
    simp only [R.calm_ok, R.bind_ok]
    have hl : (p.2.filterMap fD).length ≤ line := Nat.le_trans (List.length_filterMap_le _ _) h3
    rw [if_pos hl, block_env]
    exact h4
theorem run_eq {n : Nat} {b : List S} {as l : List Arg} {r : Ret} (h : wO (exs ce b (as.map Arg.ss ++ List.replicate (n - as.length) .un)) (fun e => r = .p .non ∧ backA as e = some l) fun r' e => r' = r ∧ backA as e = some l) : runF ce n b as = .ok r l := by
  with_unfolding_all
    unfold runF
    cases q : exs ce b (as.map Arg.ss ++ List.replicate (n - as.length) .un) with
    | nx e1 =>
      rw [q] at h
      obtain ⟨rfl, h2⟩ := wO_nx h
      simp [runO, h2]
    | rt r e1 =>
      rw [q] at h
      obtain ⟨rfl, h2⟩ := wO_rt h
      simp [runO, h2]
    | _ => rw [q] at h; exact h.elim
theorem w_if {c : Bool} {A B : Prop} (h1 : c = true → A) (h2 : c = false → B) : if c = true then A else B := by
  with_unfolding_all
    cases c
    · exact h2 rfl
    · exact h1 rfl
end
theorem DS.mono {cs : List Int} {n m : Nat} {o : OC} (h : DS cs n o) (k : n ≤ m) : DS cs m o := by
  with_unfolding_all
    obtain ⟨a, l, u, e, h1, h2, h3, h4, h5⟩ := h.at'
    exact ⟨h.ne, h.len, a, l, u, e, h1, by omega, h3, by omega, h5⟩
theorem plains_ints : ∀ xs : List Int, plains (xs.map .int) = true
  | [] => rfl
  | x :: xs => by simp [plains, plain, plains_ints xs]
theorem deps_ints : ∀ xs : List Int, deps (xs.map .int) = 0
  | [] => rfl
  | x :: xs => by simp [deps, dep, deps_ints xs]
theorem deqs_ints : ∀ xs ys : List Int, deqs (xs.map .int) (ys.map .int) = decide (xs = ys)
  | [], [] => rfl
  | [], _ :: _ => rfl
  | _ :: _, [] => rfl
  | x :: xs, y :: ys => by
    rw [List.map_cons, List.map_cons, deqs, deqs_ints xs ys]
    simp [deq]
    by_cases h : x = y <;> simp [h]
theorem intsD_ints : ∀ xs : List Int, intsD (xs.map .int) = some xs
  | [] => rfl
  | x :: xs => by simp [intsD, intsD_ints xs]
theorem ne_ints (xs ys : List Int) : cop .ne (.lst (xs.map .int)) (.lst (ys.map .int)) = some (!decide (xs = ys)) := by
  with_unfolding_all
    simp [cop, eqOk, plain, plains_ints, dep, deps_ints, deq, deqs_ints]
theorem eq_int (a b : Int) : cop .eq (.int a) (.int b) = some (decide (a = b)) := by
  with_unfolding_all
    simp [cop, eqOk, plain, dep, deq]
    by_cases h : a = b <;> simp [h]
theorem ne_bl (a b : Bool) : cop .ne (.bl a) (.bl b) = some (a != b) := by
  with_unfolding_all
    cases a <;> cases b <;> simp [cop, eqOk, plain, dep, deq]
theorem ne_int (a b : Int) : cop .ne (.int a) (.int b) = some (!decide (a = b)) := by
  with_unfolding_all
    simp [cop, eqOk, plain, dep, deq]
    by_cases h : a = b <;> simp [h]
theorem lt_int (a b : Int) : cop .lt (.int a) (.int b) = some (decide (a < b)) := by
  with_unfolding_all
    exact rfl
theorem le_int (a b : Int) : cop .le (.int a) (.int b) = some (decide (a ≤ b)) := by
  with_unfolding_all
    exact rfl
theorem gt_int (a b : Int) : cop .gt (.int a) (.int b) = some (decide (b < a)) := by
  with_unfolding_all
    exact rfl
theorem ge_int (a b : Int) : cop .ge (.int a) (.int b) = some (decide (b ≤ a)) := by
  with_unfolding_all
    exact rfl
theorem add_int (a b : Int) : bop .add (.int a) (.int b) = some (.p (.int (a + b))) := by
  with_unfolding_all
    exact rfl
theorem sub_int (a b : Int) : bop .sub (.int a) (.int b) = some (.p (.int (a - b))) := by
  with_unfolding_all
    exact rfl
theorem add_lst {a b : List D} (h : a.length + b.length ≤ line) : bop .add (.lst a) (.lst b) = some (.fr (.ol (a ++ b))) := by
  with_unfolding_all
    simp [bop, h]
theorem ex_ifs_f {ce : CE} {c : T} {a b : List S} {e e1 : VE} (h : evT ce c e = .ok false e1) : ex ce (.ifs c a b) e = exs ce b e1 := by
  with_unfolding_all
    rw [ex, h]; rfl
theorem ex_ifs_t {ce : CE} {c : T} {a b : List S} {e e1 : VE} (h : evT ce c e = .ok true e1) : ex ce (.ifs c a b) e = exs ce a e1 := by
  with_unfolding_all
    rw [ex, h]; rfl
  mutual
theorem deq_refl : ∀ d : D, plain d = true → deq d d = true
  | .non, _ => rfl
  | .bl b, _ => by simp [deq]
  | .int i, _ => by simp [deq]
  | .str l, _ => by simp [deq]
  | .lst l, h => by rw [deq]; exact deqs_refl l h
  | .tup l, h => by rw [deq]; exact deqs_refl l h
  | .dct _, h => by cases h
  | .ins _ _, h => by cases h
  | .exc _ _, h => by cases h
  | .th _, h => by cases h
theorem deqs_refl : ∀ l : List D, plains l = true → deqs l l = true
  | [], _ => rfl
  | d :: l, h => by
    simp only [plains, Bool.and_eq_true] at h
    rw [deqs, deq_refl d h.1, deqs_refl l h.2]; rfl
end
theorem eq_same {d : D} (h : plain d = true) (h2 : dep d ≤ 40) : cop .eq d d = some true := by
  with_unfolding_all
    simp [cop, eqOk, h, h2, deq_refl d h]
theorem ne_same {d : D} (h : plain d = true) (h2 : dep d ≤ 40) : cop .ne d d = some false := by
  with_unfolding_all
    simp [cop, eqOk, h, h2, deq_refl d h]
theorem plain_ints (xs : List Int) : plain (.tup (xs.map .int)) = true := by
  with_unfolding_all
    simp [plain, plains_ints]
theorem dep_ints (xs : List Int) : dep (.tup (xs.map .int)) = 1 := by
  with_unfolding_all
    simp [dep, deps_ints]
theorem plain_intl (xs : List Int) : plain (.lst (xs.map .int)) = true := by
  with_unfolding_all
    simp [plain, plains_ints]
theorem dep_intl (xs : List Int) : dep (.lst (xs.map .int)) = 1 := by
  with_unfolding_all
    simp [dep, deps_ints]
theorem add_tup {a b : List D} (h : a.length + b.length ≤ line) : bop .add (.tup a) (.tup b) = some (.p (.tup (a ++ b))) := by
  with_unfolding_all
    simp [bop, h]
theorem ne_tups (xs ys : List Int) : cop .ne (.tup (xs.map .int)) (.tup (ys.map .int)) = some (!decide (xs = ys)) := by
  with_unfolding_all
    simp [cop, eqOk, plain, plains_ints, dep, deps_ints, deq, deqs_ints]
theorem eq_tups (xs ys : List Int) : cop .eq (.tup (xs.map .int)) (.tup (ys.map .int)) = some (decide (xs = ys)) := by
  with_unfolding_all
    simp [cop, eqOk, plain, plains_ints, dep, deps_ints, deq, deqs_ints]
theorem ne_str (a b : List Nat) : cop .ne (.str a) (.str b) = some (!decide (a = b)) := by
  with_unfolding_all
    simp [cop, eqOk, plain, dep, deq]
    by_cases h : a = b <;> simp [h]
theorem eq_str (a b : List Nat) : cop .eq (.str a) (.str b) = some (decide (a = b)) := by
  with_unfolding_all
    simp [cop, eqOk, plain, dep, deq]
    by_cases h : a = b <;> simp [h]
theorem rng_nat {m : Nat} (h : m ≤ 100000) : itOf .rng [.int m] = some ((List.range m).map fun k => .int (k : Nat)) := by
  with_unfolding_all
    show rngOf [.int m] = _
    unfold rngOf
    have : -(2 ^ 61) ≤ (m : Int) ∧ (m : Int) ≤ (line : Int) := by unfold line; omega
    simp only [this, and_self, if_true, Int.toNat_natCast]
end Vd
/-! Vd27: more steps told backwards; rows of naturals. -/
namespace Vd
section
variable {ce : CE} {e e' : VE} {Q : Val → VE → Prop}
theorem w_addL {x y : Val} {a b : List D} (h1 : rd e x = some (.lst a)) (h2 : rd e y = some (.lst b)) (h3 : a.length + b.length ≤ line) (q : Q (.fr (.ol (a ++ b))) e) : wR (zop2 (bop .add) x y e) Q := by
  with_unfolding_all
    try unfold zop2 at h
    try unfold zop2
    exact w_op2 h1 h2 (add_lst h3) q
theorem w_addT {x y : Val} {a b : List D} (h1 : rd e x = some (.tup a)) (h2 : rd e y = some (.tup b)) (h3 : a.length + b.length ≤ line) (q : Q (.p (.tup (a ++ b))) e) : wR (zop2 (bop .add) x y e) Q := by
  with_unfolding_all
    try unfold zop2 at h
    try unfold zop2
    exact w_op2 h1 h2 (add_tup h3) q
theorem w_addI {x y : Val} {a b : Int} (h1 : rd e x = some (.int a)) (h2 : rd e y = some (.int b)) (q : Q (.p (.int (a + b))) e) : wR (zop2 (bop .add) x y e) Q := by
  with_unfolding_all
    try unfold zop2 at h
    try unfold zop2
    exact w_op2 h1 h2 rfl q
theorem w_cmpD {o : Cq} {x y : Val} {d d' : D} {b : Bool} {QB : Bool → VE → Prop} (h1 : rd e x = some d) (h2 : rd e y = some d') (h3 : cop o d d' = some b) (q : QB b e) : wR (zop2 (cop o) x y e) QB := by
  with_unfolding_all
    try unfold zop2 at h
    try unfold zop2
    exact w_op2 h1 h2 h3 q
theorem w_slT {x : Val} {l : List D} {lo hi : Option Int} (h1 : rd e x = some (.tup l)) {r : List D} (h2 : cut l lo hi = r) (q : Q (.p (.tup r)) e) : wR (zop1 (fun x => slice x lo hi) x e) Q := by
  with_unfolding_all
    try unfold zop1 at h
    try unfold zop1
    subst h2; exact w_op1 h1 rfl q
theorem w_slL {x : Val} {l : List D} {lo hi : Option Int} (h1 : rd e x = some (.lst l)) {r : List D} (h2 : cut l lo hi = r) (q : Q (.fr (.ol r)) e) : wR (zop1 (fun x => slice x lo hi) x e) Q := by
  with_unfolding_all
    try unfold zop1 at h
    try unfold zop1
    subst h2; exact w_op1 h1 rfl q
theorem w_bf {b : B1} {vs : List Val} {ds : List D} {v : Val} (h1 : rds e vs = some ds) (h2 : bfn b ds = some v) (q : Q v e) : wR (zofO ((rds e vs).bind fun ds => bfn b ds) e) Q := by
  with_unfolding_all
    try unfold zofO at h
    try unfold zofO
    exact w_bfn h1 h2 q
end
section
variable {ce : CE} {e : VE} {α : Type}
theorem lcF_map {f : D → VE → R (Option D)} {emb : α → D} {res : α → Option D} {E : VE} : ∀ (l : List α), (∀ x ∈ l, f (emb x) E = .ok (res x) E) → lcF f (l.map emb) E = .ok (l.filterMap res) E
  | [], _ => rfl
  | d :: l, h => by
    rw [List.map_cons, lcF, h d List.mem_cons_self]
    simp only [R.bind_ok]
    rw [lcF_map l fun x hx => h x (List.mem_cons_of_mem _ hx)]
    simp only [R.bind_ok, List.filterMap_cons]
    cases res d <;> rfl
/-- a comprehension over known items, with a condition -/
theorem w_lcF {t : T} {G : TG} {k : Ik} {ts : List T} {c : Option T} {own : List Nat} (xs : List α) (emb : α → D) (cond : α → Bool) (res : α → D) {Q : Val → VE → Prop}
    (h : wR ((evs ce ts e).bind (itsOf k)) fun p e0 => p.2 = xs.map emb ∧
      (∀ x ∈ xs, wX (zbindG G (emb x) (wipeE own (lockE (vws p.1) e0))) fun e1 => wipeE own e1 = wipeE own (lockE (vws p.1) e0) ∧ wR (evc ce c e1) fun b e2 => e2 = e1 ∧ b = cond x ∧ (cond x = true → wR (ev ce t e1) fun v e3 => e3 = e1 ∧ fzP v = some (res x))) ∧ xs.length ≤ line ∧ Q (.fr (.ol ((xs.filter cond).map res))) e0) : wR (ev ce (.lc t G k ts c own) e) Q := by
  with_unfolding_all
    try unfold zbindG at h
    try unfold zbindG
    rw [ev]
    obtain ⟨p, e0, h1, h2, h3, h4, h5⟩ := wR_get h
    rw [h1]
    simp only [R.bind_ok]
    have key := lcF_map (f := fun d e => (ofO (bindG G d e) e).bind fun e' _ => (evc ce c e').bind fun b e => if b = true then (ev ce t e).bind fun v e => (ofP (fz e v)).bind fun d e => .ok (some d) (wipeE own e) else .ok none (wipeE own e)) (emb := emb) (res := fun x => if cond x = true then some (res x) else none) (E := wipeE own (lockE (vws p.1) e0)) xs (fun x hx => by
      have t2 := h3 x hx
      cases q : bindG G (emb x) (wipeE own (lockE (vws p.1) e0)) with
      | none => rw [q] at t2; exact t2.elim
      | some e1 =>
        rw [q] at t2
        obtain ⟨w1, w2⟩ := wX_some' t2
        obtain ⟨b, e2, q2, rfl, rfl, w3⟩ := wR_get w2
        simp only [ofO_some, R.bind_ok, q2]
        cases hc : cond x with
        | false => simp [w1]
        | true =>
          obtain ⟨v, e3, q3, rfl, z2⟩ := wR_get (w3 hc)
          rw [if_pos rfl, q3]
          simp only [R.bind_ok, fz_p z2, ofP_some, w1, if_true])
    rw [h2, key]
    simp only [R.calm_ok, R.bind_ok]
    have e1 : xs.filterMap (fun x => if cond x = true then some (res x) else none) = (xs.filter cond).map res := by
      clear h h1 h2 h3 h4 h5 key
      induction xs with
      | nil => rfl
      | cons x xs ih =>
        rw [List.filterMap_cons, ih, List.filter_cons]
        cases cond x <;> rfl
    rw [e1]
    have hl : ((xs.filter cond).map res).length ≤ line := by
      rw [List.length_map]; exact Nat.le_trans (List.length_filter_le _ _) h4
    rw [if_pos hl, block_env]
    exact h5
/-- .. without -/
theorem w_lcM {t : T} {G : TG} {k : Ik} {ts : List T} {own : List Nat} (xs : List α) (emb res : α → D) {Q : Val → VE → Prop}
    (h : wR ((evs ce ts e).bind (itsOf k)) fun p e0 => p.2 = xs.map emb ∧
      (∀ x ∈ xs, wX (zbindG G (emb x) (wipeE own (lockE (vws p.1) e0))) fun e1 => wipeE own e1 = wipeE own (lockE (vws p.1) e0) ∧ wR (ev ce t e1) fun v e3 => e3 = e1 ∧ fzP v = some (res x)) ∧ xs.length ≤ line ∧ Q (.fr (.ol (xs.map res))) e0) : wR (ev ce (.lc t G k ts none own) e) Q := by
  with_unfolding_all
    try unfold zbindG at h
    try unfold zbindG
    refine w_lcF xs emb (fun _ => true) res (wR_mono h fun p e0 h => ?_)
    obtain ⟨h1, h2, h3, h4⟩ := h
    refine ⟨h1, fun x hx => ?_, h3, by rw [List.filter_eq_self.mpr (fun _ _ => rfl)]; exact h4⟩
    have := h2 x hx
    cases q : bindG G (emb x) (wipeE own (lockE (vws p.1) e0)) with
    | none => rw [q] at this; exact this.elim
    | some e1 =>
      rw [q] at this
      obtain ⟨t1, t2⟩ := wX_some' this
      exact wX_some (e := e1) (by unfold zbindG; exact q) ⟨t1, by rw [evc]; exact wR_ok ⟨rfl, rfl, fun _ => t2⟩⟩
end
theorem allB_map {α : Type} (p : α → Bool) : ∀ xs : List α, allB (xs.map fun x => .bl (p x)) = some (xs.all p)
  | [] => rfl
  | x :: xs => by simp [allB, allB_map p xs]
theorem anyB_map {α : Type} (p : α → Bool) : ∀ xs : List α, anyB (xs.map fun x => .bl (p x)) = some (xs.any p)
  | [] => rfl
  | x :: xs => by simp [anyB, anyB_map p xs]
abbrev nD (x : Nat) : D := .int (x : Int)
abbrev tN (xs : List Nat) : D := .tup (xs.map nD)
abbrev lN (xs : List Nat) : D := .lst (xs.map nD)
theorem cut_nat {α : Type} (l : List α) {i j : Int} {a b : Nat} (hi : i = a) (hj : j = b) : cut l (some i) (some j) = (l.take b).drop a := by
  subst hi hj
  have e1 : clip l.length 0 (some (a : Int)) = min a l.length := by
    unfold clip; dsimp only; rw [if_neg (by omega)]; simp
  have e2 : clip l.length l.length (some (b : Int)) = min b l.length := by
    unfold clip; dsimp only; rw [if_neg (by omega)]; simp
  unfold cut
  rw [e1, e2, List.drop_take]
  by_cases h : a ≤ l.length
  · rw [Nat.min_eq_left h, List.take_eq_take_iff, List.length_drop]
    omega
  · rw [Nat.min_eq_right (show l.length ≤ a by omega), List.drop_eq_nil_of_le (Nat.le_refl _), List.drop_eq_nil_of_le (by omega)]
    simp
theorem cut_lo {α : Type} (l : List α) {i : Int} {a : Nat} (hi : i = a) : cut l (some i) none = l.drop a := by
  subst hi
  have e1 : clip l.length 0 (some (a : Int)) = min a l.length := by
    unfold clip; dsimp only; rw [if_neg (by omega)]; simp
  unfold cut
  rw [e1]
  show (l.drop (min a l.length)).take (l.length - min a l.length) = _
  by_cases h : a ≤ l.length
  · rw [Nat.min_eq_left h, List.take_of_length_le (by simp)]
  · rw [Nat.min_eq_right (by omega)]; simp; omega
theorem cut_hi {α : Type} (l : List α) {j : Int} {b : Nat} (hj : j = b) : cut l none (some j) = l.take b := by
  subst hj
  have e2 : clip l.length l.length (some (b : Int)) = min b l.length := by
    unfold clip; dsimp only; rw [if_neg (by omega)]; simp
  unfold cut
  rw [e2]
  show (l.drop 0).take (min b l.length - 0) = _
  rw [List.drop_zero, Nat.sub_zero]
  by_cases h : b ≤ l.length
  · rw [Nat.min_eq_left h]
  · rw [Nat.min_eq_right (by omega), List.take_of_length_le (Nat.le_refl _), List.take_of_length_le (by omega)]
theorem nats_inj {xs ys : List Nat} : xs.map nD = ys.map nD ↔ xs = ys := by
  constructor
  · intro h
    exact (List.map_inj_right (f := nD) fun a b e => by
      have : (a : Int) = b := by simpa [nD] using e
      omega).mp h
  · rintro rfl; rfl
theorem plains_nats : ∀ xs : List Nat, plains (xs.map nD) = true
  | [] => rfl
  | x :: xs => by simp [plains, plain, plains_nats xs]
theorem deps_nats : ∀ xs : List Nat, deps (xs.map nD) = 0
  | [] => rfl
  | x :: xs => by simp [deps, dep, deps_nats xs]
theorem deqs_nats : ∀ xs ys : List Nat, deqs (xs.map nD) (ys.map nD) = decide (xs = ys)
  | [], [] => rfl
  | [], _ :: _ => rfl
  | _ :: _, [] => rfl
  | x :: xs, y :: ys => by
    rw [List.map_cons, List.map_cons, deqs, deqs_nats xs ys]
    simp only [deq]
    by_cases h : x = y
    · subst h; simp
    · have : ¬ (x : Int) = y := by omega
      simp [h, this]
theorem eq_tN (xs ys : List Nat) : cop .eq (tN xs) (tN ys) = some (decide (xs = ys)) := by simp [cop, eqOk, plain, plains_nats, dep, deps_nats, deq, deqs_nats]
theorem ne_tN (xs ys : List Nat) : cop .ne (tN xs) (tN ys) = some (!decide (xs = ys)) := by simp [cop, eqOk, plain, plains_nats, dep, deps_nats, deq, deqs_nats]
theorem eq_lN (xs ys : List Nat) : cop .eq (lN xs) (lN ys) = some (decide (xs = ys)) := by simp [cop, eqOk, plain, plains_nats, dep, deps_nats, deq, deqs_nats]
theorem ne_lN (xs ys : List Nat) : cop .ne (lN xs) (lN ys) = some (!decide (xs = ys)) := by simp [cop, eqOk, plain, plains_nats, dep, deps_nats, deq, deqs_nats]
theorem eq_nD (a b : Nat) : cop .eq (nD a) (nD b) = some (decide (a = b)) := by
  rw [eq_int]; congr 1; by_cases h : a = b
  · simp [h]
  · have : ¬ (a : Int) = b := by omega
    simp [h, this]
theorem ne_nD (a b : Nat) : cop .ne (nD a) (nD b) = some (!decide (a = b)) := by
  rw [ne_int]; congr 2; by_cases h : a = b
  · simp [h]
  · have : ¬ (a : Int) = b := by omega
    simp [h, this]
theorem plain_str (l : List Nat) : plain (.str l) = true := rfl
end Vd
/-! Vd28: texts joined, places of a sign, rows of texts, targets that are tuples. -/
namespace Vd
open PySem PyProof
theorem join_flat (ys : List (List Nat)) : Txt.join (sT []) (ys.map sT) = sT ys.flatten := by
    rw [show Txt.join (sT []) (ys.map sT) = Str.join (sT []) (ys.map sT) from TL.join_eq _ _]
    induction ys with
    | nil => rfl
    | cons y ys ih =>
      cases ys with
      | nil => simp [Str.join]
      | cons z ys =>
        rw [List.map_cons] at ih
        rw [List.map_cons, List.map_cons, Str.join, ih]
        · rw [sT_app, sT_app]; simp
        · simp
theorem deqI {a b : Int} (h : deq (.int a) (.int b) = true) : a = b := by simpa [deq] using h
theorem deqI' {a b : Int} (h : deq (.int a) (.int b) = false) : ¬ a = b := by simpa [deq] using h
theorem dqS {a b : List Nat} (h : deq (.str a) (.str b) = true) : a = b := by simpa [deq] using h
theorem dqS' {a b : List Nat} (h : deq (.str a) (.str b) = false) : ¬ a = b := by simpa [deq] using h
theorem nqS {a b : List Nat} (h : (!deq (.str a) (.str b)) = true) : ¬ a = b := by simpa [deq] using h
theorem nqS' {a b : List Nat} (h : (!deq (.str a) (.str b)) = false) : a = b := by simpa [deq] using h
theorem nqI {a b : Int} (h : (!deq (.int a) (.int b)) = true) : ¬ a = b := by simpa [deq] using h
theorem nqI' {a b : Int} (h : (!deq (.int a) (.int b)) = false) : a = b := by simpa [deq] using h
theorem strsD_strs : ∀ ys : List (List Nat), strsD (ys.map .str) = some ys
  | [] => rfl
  | y :: ys => by simp [strsD, strsD_strs ys]
theorem strV_sT {l : List Nat} (h : l.length ≤ line) : strV (sT l) = some (.str l) := by
  unfold strV oS sT Str.length
  simp [h]
theorem join_nil (ys : List (List Nat)) (h : ys.flatten.length ≤ line) : pfn .join (.str []) [.lst (ys.map .str)] = some (.p (.str ys.flatten)) := by
  have h' : (ys.map List.length).sum ≤ line := by rw [← List.length_flatten]; exact h
  simp [pfn, strsOf, strsD_strs, h', join_flat, strV_sT h]
theorem join_map {α : Type} (f : α → List Nat) (l : List α) (h : (l.map f).flatten.length ≤ line) : pfn .join (.str []) [.lst (l.map fun x => .str (f x))] = some (.p (.str (l.map f).flatten)) := by
  have := join_nil (l.map f) h
  rw [List.map_map] at this
  exact this
/-- rows of texts -/
abbrev lS (ns : List (List Nat)) : D := .lst (ns.map .str)
theorem plains_strs : ∀ ns : List (List Nat), plains (ns.map .str) = true
  | [] => rfl
  | n :: ns => by simp [plains, plain, plains_strs ns]
theorem any_strs (n : List Nat) : ∀ ns : List (List Nat), (ns.map D.str).any (fun y => deq y (.str n)) = decide (n ∈ ns)
  | [] => rfl
  | m :: ns => by
    rw [List.map_cons, List.any_cons, any_strs n ns]
    simp only [deq, List.mem_cons]
    by_cases h : m = n
    · subst h; simp
    · have h' : ¬ n = m := fun e => h e.symm
      simp [h, h']
theorem in_strs (n : List Nat) (ns : List (List Nat)) : cop .isin (.str n) (lS ns) = some (decide (n ∈ ns)) := by
  have h1 : inOk (.str n) (ns.map .str) = true := by simp [inOk, plain, plains_strs, dep]
  have : cop .isin (.str n) (lS ns) = if inOk (.str n) (ns.map .str) then some (inD (.str n) (ns.map .str)) else none := rfl
  rw [this, h1]
  simp only [inD, any_strs, if_true]
theorem notin_strs (n : List Nat) (ns : List (List Nat)) : cop .notin (.str n) (lS ns) = some (!decide (n ∈ ns)) := by
  have h1 : inOk (.str n) (ns.map .str) = true := by simp [inOk, plain, plains_strs, dep]
  have : cop .notin (.str n) (lS ns) = if inOk (.str n) (ns.map .str) then some (!inD (.str n) (ns.map .str)) else none := rfl
  rw [this, h1]
  simp only [inD, any_strs, if_true]
section
variable {ce : CE} {e e' : VE} {Q : Val → VE → Prop} {N : VE → Prop}
theorem putA_same : ∀ (vs : List Val) (as : List Arg) (e : VE), vws vs = [] → putA vs as e = e
  | [], as, e, _ => by cases as <;> simp [putA]
  | .p d :: vs, [], e, _ => by simp [putA]
  | .fr d :: vs, [], e, _ => by simp [putA]
  | .p d :: vs, a :: as, e, h => by rw [putA]; exact putA_same vs as e h; intros; simp_all
  | .fr d :: vs, a :: as, e, h => by rw [putA]; exact putA_same vs as e h; intros; simp_all
  | .vw i :: vs, _, e, h => by simp [vws] at h
/-- a call with nothing lent -/
theorem w_callP {f : Nat} {vs : List Val} {as l : List Arg} {r : Ret} (h0 : vws vs = []) (h1 : argsOf e vs = some as) (h2 : ce.fn f as = .ok r l) (q : Q r.val e) : wR (zcallR ce f vs e) Q :=
  w_call1 (by rw [h0]; exact .nil) h1 h2 (by rw [putA_same vs l e h0]; exact q)
theorem w_extT {i : Nat} {v : Val} {b : Bool} {l m : List D} (h1 : e[i]? = some (.own b false (.ol l))) (h2 : rd e v = some (.tup m)) (h3 : l.length + m.length ≤ line) (q : Q (.p .non) (e.set i (.own b false (.ol (l ++ m))))) : wR (zmfn .extend (.vw i) [v] e) Q := by
  with_unfolding_all
    try unfold zmfn at h
    try unfold zmfn
    simp only [mfn, h1, h2, if_pos h3]; exact q
theorem w_pf {m : Pm} {x : Val} {vs : List Val} {d : D} {ds : List D} {v : Val} (h0 : rd e x = some d) (h1 : rds e vs = some ds) (h2 : pfn m d ds = some v) (q : Q v e) : wR (zofO ((rd e x).bind fun d => (rds e vs).bind fun ds => pfn m d ds) e) Q := by
  with_unfolding_all
    try unfold zofO at h
    try unfold zofO
    exact w_pfn h0 h1 h2 q
theorem w_ixD {x y : Val} {QD : D → VE → Prop} {d d' r : D} (h1 : rd e x = some d) (h2 : rd e y = some d') (h3 : item d d' = some r) (q : QD r e) : wR (zop2 item x y e) QD := by
  with_unfolding_all
    try unfold zop2 at h
    try unfold zop2
    exact w_op2 h1 h2 h3 q
theorem w_mulL {x y : Val} {a : List D} {k : Int} {n : Nat} (h1 : rd e x = some (.lst a)) (h2 : rd e y = some (.int k)) (hk : k = n) (hn : n ≤ 1000000) (ha : a.length * n ≤ line) (q : Q (.fr (.ol (List.replicate n a).flatten)) e) : wR (zop2 (bop .mul) x y e) Q := by
  with_unfolding_all
    try unfold zop2 at h
    try unfold zop2
    subst hk
    refine w_op2 h1 h2 ?_ q
    have c : -(2 ^ 62) ≤ (n : Int) ∧ (n : Int) < 2 ^ 62 ∧ a.length * (n : Int).toNat ≤ line := ⟨by omega, by omega, by rw [Int.toNat_natCast]; exact ha⟩
    have c2 : bop .mul (.lst a) (.int (n : Int)) = if -(2 ^ 62) ≤ (n : Int) ∧ (n : Int) < 2 ^ 62 ∧ a.length * (n : Int).toNat ≤ line then some (.fr (.ol (List.replicate (n : Int).toNat a).flatten)) else none := rfl
    rw [c2, if_pos c, Int.toNat_natCast]
end
end Vd
/-! Vd29: comprehensions that draw. -/
namespace Vd
section
variable {ce : CE} {e : VE}
theorem lcF_inv {f : D → VE → R (Option D)} (I : List D → List D → VE → Prop) (turn : ∀ acc d rest e, I acc (d :: rest) e → wR (f d e) fun o e' => ∃ d', o = some d' ∧ I (acc ++ [d']) rest e') : ∀ (l acc : List D) (e : VE), I acc l e → wR (lcF f l e) fun r e' => I (acc ++ r) [] e'
  | [], acc, e, h => by rw [lcF]; exact wR_ok (by rw [List.append_nil]; exact h)
  | d :: l, acc, e, h => by
    rw [lcF]
    refine wR_bind (wR_mono (turn acc d l e h) fun o e' h' => ?_)
    obtain ⟨d', rfl, h'⟩ := h'
    refine wR_bind (wR_mono (lcF_inv I turn l _ e' h') fun r e2 h2 => wR_ok ?_)
    rw [List.append_assoc] at h2
    exact h2
/-- a comprehension that changes what lies outside it: I holds of the results so far, of what is left, of the frame (own slots wiped, walked ones locked) -/
theorem w_lcS {t : T} {G : TG} {k : Ik} {ts : List T} {own : List Nat} {Q : Val → VE → Prop}
    (h : wR ((evs ce ts e).bind (itsOf k)) fun p e0 => ∃ I : List D → List D → VE → Prop, I [] p.2 (wipeE own (lockE (vws p.1) e0)) ∧
      (∀ acc d rest e, I acc (d :: rest) e → wX (zbindG G d e) fun e1 => wR (ev ce t e1) fun v e2 => ∃ d', fzP v = some d' ∧ I (acc ++ [d']) rest (wipeE own e2)) ∧
      ∀ r e, I r [] e → r.length ≤ line ∧ Q (.fr (.ol r)) (unlockE e0 (vws p.1) (backE e0 own e))) : wR (ev ce (.lc t G k ts none own) e) Q := by
  with_unfolding_all
    try unfold zbindG at h
    try unfold zbindG
    rw [ev]
    obtain ⟨p, e0, h1, I, h2, h3, h4⟩ := wR_get h
    rw [h1]
    simp only [R.bind_ok]
    obtain ⟨r, e9, q, hI⟩ := wR_get (lcF_inv (f := fun d e => (ofO (bindG G d e) e).bind fun e' _ => (evc ce none e').bind fun b e => if b = true then (ev ce t e).bind fun v e => (ofP (fz e v)).bind fun d e => .ok (some d) (wipeE own e) else .ok none (wipeE own e)) I (fun acc d rest e h => by
      have t2 := h3 acc d rest e h
      cases q : bindG G d e with
      | none => rw [q] at t2; exact t2.elim
      | some e1 =>
        rw [q] at t2
        obtain ⟨v, e2, q2, d', z, w⟩ := wR_get t2
        simp only [ofO_some, R.bind_ok, evc, if_true, q2, fz_p z, ofP_some]
        exact wR_ok ⟨d', rfl, w⟩) p.2 [] _ h2)
    rw [List.nil_append] at hI
    rw [q]
    simp only [R.calm_ok, R.bind_ok]
    rw [if_pos (h4 r e9 hI).1]
    exact (h4 r e9 hI).2
end
end Vd
/-! Vd30: what is raised, told backwards (yO); lambdas handed to defs that tell. -/
namespace Vd
@[irreducible] def yO (o : Out) (N : VE → Prop) (T : Ret → VE → Prop) (Z : XD → VE → Prop) : Prop := match o with | .nx e => N e | .rt r e => T r e | .rz x e => Z x e | _ => False
section
variable {α β : Type} {ce : CE} {e e' : VE} {N : VE → Prop} {Rt : Ret → VE → Prop} {Z : XD → VE → Prop}
theorem y_of {o : Out} (h : wO o N Rt) : yO o N Rt Z := by
  with_unfolding_all
    cases o with
    | nx e => exact h
    | rt r e => exact h
    | _ => exact h.elim
theorem yO_mono {o : Out} {N' : VE → Prop} {Rt' : Ret → VE → Prop} {Z' : XD → VE → Prop} (h : yO o N Rt Z) (k : ∀ e, N e → N' e) (k' : ∀ r e, Rt r e → Rt' r e) (k'' : ∀ x e, Z x e → Z' x e) : yO o N' Rt' Z' := by
  with_unfolding_all
    cases o with
    | nx e => exact k _ h
    | rt r e => exact k' _ _ h
    | rz x e => exact k'' _ _ h
    | _ => exact h.elim
theorem yO_out {m : R α} {f : α → VE → Out} (h : wR m fun a e => yO (f a e) N Rt Z) : yO (m.out f) N Rt Z := by
  with_unfolding_all
    cases m with
    | ok a e => exact h
    | rz x e => exact h.elim
    | no => exact h.elim
theorem y_nil (h : N e) : yO (exs ce [] e) N Rt Z := by
  with_unfolding_all
    rw [exs]; exact h
theorem y_cons {s : S} {l : List S} (h : yO (ex ce s e) (fun e => yO (exs ce l e) N Rt Z) Rt Z) : yO (exs ce (s :: l) e) N Rt Z := by
  with_unfolding_all
    rw [exs]
    cases q : ex ce s e with
    | nx e1 => rw [q] at h; exact h
    | rt r e1 => rw [q] at h; exact h
    | rz x e1 => rw [q] at h; exact h
    | _ => rw [q] at h; exact h.elim
theorem y_set {i : Nat} {t : T} (h : wR (ev ce t e) fun v e => wX (zsetV i v e) N) : yO (ex ce (.set i t) e) N Rt Z := y_of (w_set h)
theorem y_par {is : List Nat} {ts : List T} (h : wR (evs ce ts e) fun vs e => wR (zofP (fzVs vs e)) fun vs e => wX (zsetVs is vs e) N) : yO (ex ce (.par is ts) e) N Rt Z := y_of (w_par h)
theorem y_unp {g : TG} {t : T} (h : wR (ev ce t e) fun v e => wR (zofP (fz e v)) fun d e => wX (zbindG g d e) N) : yO (ex ce (.unp g t) e) N Rt Z := y_of (w_unp h)
theorem y_exp {t : T} (h : wR (ev ce t e) fun _ e => N e) : yO (ex ce (.exp t) e) N Rt Z := y_of (w_exp h)
theorem y_ret {t : T} (h : wR (ev ce t e) fun v e => wO (zretV v e) N Rt) : yO (ex ce (.ret t) e) N Rt Z := y_of (w_ret h)
theorem y_ifs {c : T} {a b : List S} (h : wR (evT ce c e) fun t e => if t = true then yO (exs ce a e) N Rt Z else yO (exs ce b e) N Rt Z) : yO (ex ce (.ifs c a b) e) N Rt Z := by
  with_unfolding_all
    rw [ex]; refine yO_out (wR_mono h fun t _ h => ?_)
    cases t <;> exact h
theorem y_fors {g : TG} {k : Ik} {l : List T} {b : List S} (h : wR ((evs ce l e).bind (itsOf k)) fun p e0 => yO (zforF g (exs ce b) p.2 (lockE (vws p.1) e0)) (fun e => N (unlockE e0 (vws p.1) e)) (fun r e => Rt r (unlockE e0 (vws p.1) e)) fun x e => Z x (unlockE e0 (vws p.1) e)) : yO (ex ce (.fors g k l b) e) N Rt Z := by
  rw [ex]; refine yO_out (wR_mono h fun p e0 h => ?_)
  unfold zforF at h
  cases q : forF g (exs ce b) p.2 (lockE (vws p.1) e0) with
  | nx e1 => rw [q] at h; with_unfolding_all exact h
  | rt r e1 => rw [q] at h; with_unfolding_all exact h
  | rz x e1 => rw [q] at h; with_unfolding_all exact h
  | _ => rw [q] at h; with_unfolding_all exact h.elim
theorem y_for_nil {g : TG} {b : VE → Out} (h : N e) : yO (zforF g b [] e) N Rt Z := by
  with_unfolding_all
    exact h
theorem y_for_cons {g : TG} {b : VE → Out} {d : D} {l : List D} (h : wX (zbindG g d e) fun e => yO (b e) (fun e => yO (zforF g b l e) N Rt Z) Rt Z) : yO (zforF g b (d :: l) e) N Rt Z := by
  unfold zforF zbindG at h
  unfold zforF forF
  cases q : bindG g d e with
  | none => rw [q] at h; with_unfolding_all exact h.elim
  | some e1 =>
    rw [q] at h
    have h' : yO (b e1) (fun e => yO (forF g b l e) N Rt Z) Rt Z := by with_unfolding_all exact h
    dsimp only
    cases q2 : b e1 with
    | nx e2 => rw [q2] at h'; with_unfolding_all exact h'
    | rt r e2 => rw [q2] at h'; with_unfolding_all exact h'
    | rz r e2 => rw [q2] at h'; with_unfolding_all exact h'
    | _ => rw [q2] at h'; with_unfolding_all exact h'.elim
theorem y_for_inv {g : TG} {b : VE → Out} (I : List D → VE → Prop) (stop : ∀ e, I [] e → N e) (turn : ∀ d l e, I (d :: l) e → wX (zbindG g d e) fun e => yO (b e) (I l) Rt Z) : ∀ (l : List D) (e : VE), I l e → yO (zforF g b l e) N Rt Z
  | [], e, h => y_for_nil (stop e h)
  | d :: l, e, h => y_for_cons (wX_mono (turn d l e h) fun e1 t => yO_mono t (fun e2 h2 => y_for_inv I stop turn l e2 h2) (fun _ _ h => h) fun _ _ h => h)
theorem y_rse {c : Nat} {l : List T} (h : wR (evs ce l e) fun vs e => wR (zofP (fzs vs e)) fun ds e => (ds.length = (ce.flds c).length ∧ ds ≠ [] ∧ ds.length ≤ 100) ∧ Z ⟨c, ((ce.flds c).zip ds).reverse⟩ e) : yO (ex ce (.rse c l) e) N Rt Z := by
  with_unfolding_all
    rw [ex]
    refine yO_out (wR_mono h fun vs e h => ?_)
    unfold zofP at h
    refine yO_out (wR_mono h fun ds e h => ?_)
    unfold rseF
    rw [if_pos h.1]
    exact h.2
theorem w_fzs' {vs : List Val} {ds : List D} {Q : List D → VE → Prop} (h1 : fzs vs e = some (ds, e')) (q : Q ds e') : wR (zofP (fzs vs e)) Q := by
  with_unfolding_all
    unfold zofP; rw [h1]; exact q
theorem y_expZ {t : T} {x : XD} (h : ev ce t e = .rz x e') (q : Z x e') : yO (ex ce (.exp t) e) N Rt Z := by
  with_unfolding_all
    rw [ex, h]; exact q
theorem y_setZ {i : Nat} {t : T} {x : XD} (h : ev ce t e = .rz x e') (q : Z x e') : yO (ex ce (.set i t) e) N Rt Z := by
  with_unfolding_all
    rw [ex, h]; exact q
theorem y_retZ {t : T} {x : XD} (h : ev ce t e = .rz x e') (q : Z x e') : yO (ex ce (.ret t) e) N Rt Z := by
  with_unfolding_all
    rw [ex, h]; exact q
/-- a def that raises, called with nothing lent -/
theorem ev_callZ {f : Nat} {l : List T} {vs : List Val} {as l' : List Arg} {x : XD} (h : evs ce l e = .ok vs e') (h0 : vws vs = []) (h1 : argsOf e' vs = some as) (h2 : ce.fn f as = .rz x l') : ev ce (.call f l) e = .rz x e' := by
  rw [ev, h]
  show callR ce f vs e' = _
  unfold callR
  rw [if_pos (by rw [h0]; exact List.nodup_nil), h1]
  dsimp only
  rw [h2]
  dsimp only
  rw [putA_same _ _ _ h0]
/-- .. with lent objects -/
theorem ev_callZ' {f : Nat} {l : List T} {vs : List Val} {as l' : List Arg} {x : XD} (h : evs ce l e = .ok vs e') (h0 : (vws vs).Nodup) (h1 : argsOf e' vs = some as) (h2 : ce.fn f as = .rz x l') : ev ce (.call f l) e = .rz x (putA vs l' e') := by
  rw [ev, h]
  show callR ce f vs e' = _
  unfold callR
  rw [if_pos h0, h1]
  dsimp only
  rw [h2]
theorem modify_set {i : Nat} {b k : Bool} {c c' : OC} {e : VE} (h : e[i]? = some (.own b k c)) : e.modify i (SS.put c') = e.set i (.own b k c') := by
  refine List.ext_getElem? fun j => ?_
  by_cases z : i = j
  · subst z
    rw [mod_eq h, List.getElem?_set_self (by
      rcases Nat.lt_or_ge i e.length with q | q
      · exact q
      · rw [List.getElem?_eq_none q] at h; cases h)]
    rfl
  · rw [mod_ne z, List.getElem?_set_ne z]
theorem modify_own {i : Nat} {b k : Bool} {c : OC} {e : VE} (h : e[i]? = some (.own b k c)) : e.modify i (SS.put c) = e := by
  refine List.ext_getElem? fun j => ?_
  by_cases z : i = j
  · subst z
    rw [mod_eq h, h]; rfl
  · rw [mod_ne z]
theorem putA_id : ∀ (vs : List Val) (as : List Arg) (e : VE), argsOf e vs = some as → putA vs as e = e
  | [], as, e, h => by cases as <;> rfl
  | v :: vs, as, e, h => by
    unfold argsOf at h
    cases q : argOf e v with
    | none => rw [q] at h; cases h
    | some a =>
      rw [q] at h
      cases q2 : argsOf e vs with
      | none => rw [q2] at h; cases h
      | some l =>
        rw [q2] at h
        cases h
        have ih := putA_id vs l e q2
        cases v with
        | p d => unfold putA; exact ih
        | fr c => unfold putA; exact ih
        | vw i =>
          unfold argOf at q
          dsimp only at q
          split at q
          · cases q; unfold putA; exact ih
          · rename_i b k c hc
            cases q
            unfold putA
            rw [modify_own hc]
            exact ih
          · cases q
/-- a call that leaves what it was lent -/
theorem w_callS {f : Nat} {vs : List Val} {as : List Arg} {r : Ret} {Q : Val → VE → Prop} (h0 : (vws vs).Nodup) (h1 : argsOf e vs = some as) (h2 : ce.fn f as = .ok r as) (q : Q r.val e) : wR (zcallR ce f vs e) Q :=
  w_call1 h0 h1 h2 (by rw [putA_id _ _ _ h1]; exact q)
/-- a call to which one object is lent ahead of plain arguments -/
theorem w_callV {f i : Nat} {ws : List Val} {as l' : List Arg} {b k : Bool} {c c' : OC} {r : Ret} {Q : Val → VE → Prop} (hi : e[i]? = some (.own b k c)) (hw : vws ws = []) (h1 : argsOf e ws = some as) (h2 : ce.fn f (.o k c :: as) = .ok r (.o k c' :: l')) (q : Q r.val (e.set i (.own b k c'))) : wR (zcallR ce f (.vw i :: ws) e) Q := by
  refine w_call1 (as := .o k c :: as) (by rw [vws, hw]; simp) (by
    unfold argsOf
    rw [show argOf e (.vw i) = some (.o k c) by unfold argOf; dsimp only; rw [hi], h1]
    rfl) h2 ?_
  unfold putA
  rw [putA_same _ _ _ hw, modify_set hi]
  exact q
theorem ev_callZS {f : Nat} {l : List T} {vs : List Val} {as : List Arg} {x : XD} (h : evs ce l e = .ok vs e') (h0 : (vws vs).Nodup) (h1 : argsOf e' vs = some as) (h2 : ce.fn f as = .rz x as) : ev ce (.call f l) e = .rz x e' := by
  rw [ev_callZ' h h0 h1 h2, putA_id _ _ _ h1]
theorem run_z {n : Nat} {b : List S} {as l : List Arg} {x : XD} (h : yO (exs ce b (as.map Arg.ss ++ List.replicate (n - as.length) .un)) (fun _ => False) (fun _ _ => False) fun x' e => x' = x ∧ backA as e = some l) : runF ce n b as = .rz x l := by
  with_unfolding_all
    unfold runF
    cases q : exs ce b (as.map Arg.ss ++ List.replicate (n - as.length) .un) with
    | rz r e1 =>
      rw [q] at h
      have h : r = x ∧ backA as e1 = some l := by with_unfolding_all exact h
      obtain ⟨rfl, h2⟩ := h
      simp [runO, h2]
    | _ => rw [q] at h; exact h.elim
variable {Q : Val → VE → Prop}
theorem w_frz {a : T} (h : wR (ev ce a e) fun v e => wR (zofP (fz e v)) fun d e => Q (.p d) e) : wR (ev ce (.frz a) e) Q := by
  with_unfolding_all
    rw [ev]; exact wR_bind (wR_mono h fun _ _ h => wR_bind (by unfold zofP at h; exact h))
theorem w_dct {ks : List DK} {l : List T} (h : wR (evs ce l e) fun vs e => wR (zofP (fzs vs e)) fun ds e => ds.length ≤ 15 ∧ Q (.fr (.od (mkD ks ds))) e) : wR (ev ce (.dct ks l) e) Q := by
  with_unfolding_all
    rw [ev]
    refine wR_bind (wR_mono h fun _ _ h => wR_bind (wR_mono (by unfold zofP at h; exact h) fun _ _ h => ?_))
    rw [if_pos h.1]
    exact h.2
theorem w_dct0 (h : Q (.fr (.od [])) e) : wR (ev ce (.dct [] []) e) Q := w_dct (ws_nil (w_fzs' rfl ⟨Nat.zero_le _, h⟩))
/-- nothing is raised -/
theorem w_told {f : Nat} {t : T} {c : OC} (hc : ce.tl f none = some c) (h : wR (ev ce t e) fun _ e => Q (.fr c) e) : wR (ev ce (.told f t) e) Q := by
  with_unfolding_all
    rw [ev]
    cases q : ev ce t e with
    | ok v e1 =>
      rw [q] at h
      unfold toldR
      dsimp only
      rw [hc]
      exact h
    | rz x e1 => rw [q] at h; exact h.elim
    | no => rw [q] at h; exact h.elim
/-- x is raised -/
theorem w_toldZ {f : Nat} {t : T} {x : XD} {c : OC} (h : ev ce t e = .rz x e') (hc : ce.tl f (some x) = some c) (q : Q (.fr c) e') : wR (ev ce (.told f t) e) Q := by
  with_unfolding_all
    rw [ev, h]
    unfold toldR
    dsimp only
    rw [hc]
    exact q
end
end Vd
/-! Vd31: for .. in d.items(), told backwards; o[i] = v. -/
namespace Vd
section
variable {ce : CE} {e e1 : VE} {N : VE → Prop} {Rt : Ret → VE → Prop}
theorem w_forit {G : TG} {i : Nat} {b : List S} {bb : Bool} {l : List (DK × D)} {ds : List D} (h : e[i]? = some (.own bb false (.od l))) (hi : itemsD l = some ds)
    (q : wO (zforF G (exs ce b) ds (e.set i (.own bb true (.fd l)))) (fun e => N (e.set i (.own bb false (.od l)))) fun r e => Rt r (e.set i (.own bb false (.od l)))) : wO (ex ce (.forit G i b) e) N Rt := by
  unfold zforF at q
  rw [ex, h]
  dsimp only
  rw [hi]
  dsimp only
  cases q2 : forF G (exs ce b) ds (e.set i (.own bb true (.fd l))) with
  | nx e1 => rw [q2] at q; with_unfolding_all exact q
  | rt r e1 => rw [q2] at q; with_unfolding_all exact q
  | _ => rw [q2] at q; with_unfolding_all exact q.elim
/-- o[i] = v, o an own list -/
theorem w_subL {i : Nat} {y v : Val} {b : Bool} {l : List D} {d : D} {k : Int} {j : Nat} (h1 : fz e v = some (d, e1)) (h2 : e1[i]? = some (.own b false (.ol l))) (h3 : rd e1 y = some (.int k)) (hk : k = j) (hj : j < l.length) (q : N (e1.set i (.own b false (.ol (l.set j d))))) : wX (subV (.vw i) y v e) N := by
  subst hk
  refine wX_some (e := e1.set i (.own b false (.ol (l.set j d)))) ?_ q
  have hx : ixn l.length (j : Int) = some j := by
    unfold ixn; rw [if_pos (by omega), if_pos (by omega)]; simp
  simp only [subV, h1, Option.bind, h2, h3, hx, Option.map]
/-- d[k] = v, d an own dict -/
theorem w_subD {i : Nat} {y v : Val} {b : Bool} {l : List (DK × D)} {d d2 : D} {k : DK} (h1 : fz e v = some (d, e1)) (h2 : e1[i]? = some (.own b false (.od l))) (h3 : rd e1 y = some d2) (hk : keyOf d2 = some k) (hl : l.length < line) (q : N (e1.set i (.own b false (.od (putD l k d))))) : wX (subV (.vw i) y v e) N := by
  refine wX_some (e := e1.set i (.own b false (.od (putD l k d)))) ?_ q
  cases d2 <;> simp only [subV, h1, Option.bind, h2, h3, hk, if_pos hl]
end
end Vd
/-! Vd32: a comprehension over d.items(), told backwards. -/
namespace Vd
section
variable {ce : CE} {e e1 : VE} {α : Type}
theorem set_back {i : Nat} {s s' : SS} (h : e[i]? = some s) : (e.set i s').set i s = e := by
  rw [List.set_set]
  apply List.ext_getElem?
  intro j
  by_cases z : i = j
  · subst z
    rw [List.getElem?_set_self (List.getElem?_eq_some_iff.mp h).1, h]
  · rw [List.getElem?_set_ne z]
theorem w_lcitM {t : T} {G : TG} {i : Nat} {own : List Nat} {bb : Bool} {l : List (DK × D)} (xs : List α) (emb res : α → D) {Q : Val → VE → Prop} (h0 : e[i]? = some (.own bb false (.od l))) (hi : itemsD l = some (xs.map emb)) (hl : xs.length ≤ line)
    (h3 : ∀ x ∈ xs, wX (zbindG G (emb x) (wipeE own (e.set i (.own bb true (.fd l))))) fun e1 => wipeE own e1 = wipeE own (e.set i (.own bb true (.fd l))) ∧ wR (ev ce t e1) fun v e3 => e3 = e1 ∧ fzP v = some (res x))
    (q : Q (.fr (.ol (xs.map res))) e) : wR (ev ce (.lcit t G i none own) e) Q := by
  with_unfolding_all
    try unfold zbindG at h3
    rw [ev, h0]
    dsimp only
    rw [hi]
    dsimp only
    have key := lcF_map (f := fun d e => (ofO (bindG G d e) e).bind fun e' _ => (evc ce none e').bind fun b e => if b = true then (ev ce t e).bind fun v e => (ofP (fz e v)).bind fun d e => .ok (some d) (wipeE own e) else .ok none (wipeE own e)) (emb := emb) (res := fun x => some (res x)) (E := wipeE own (e.set i (.own bb true (.fd l)))) xs (fun x hx => by
      have t2 := h3 x hx
      cases q : bindG G (emb x) (wipeE own (e.set i (.own bb true (.fd l)))) with
      | none => rw [q] at t2; exact t2.elim
      | some e1 =>
        rw [q] at t2
        obtain ⟨w1, w2⟩ := wX_some' t2
        obtain ⟨v, e3, q3, rfl, z2⟩ := wR_get w2
        simp only [ofO_some, R.bind_ok, evc, if_true, q3, fz_p z2, ofP_some, w1])
    rw [key]
    simp only [R.calm_ok, R.bind_ok]
    have e1 : xs.filterMap (fun x => some (res x)) = xs.map res := by
      rw [List.filterMap_eq_map']
    rw [e1, if_pos (by rw [List.length_map]; exact hl)]
    have be : backE (e.set i (.own bb true (.fd l))) own (wipeE own (e.set i (.own bb true (.fd l)))) = e.set i (.own bb true (.fd l)) := block_env (ws := [])
    rw [be]
    show wR (.ok _ ((e.set i (.own bb true (.fd l))).set i (.own bb false (.od l)))) Q
    rw [set_back h0]
    exact q
end
end Vd
/-! Vd33: while, told backwards. -/
namespace Vd
section
variable {ce : CE} {e : VE} {N : VE → Prop} {R' : Ret → VE → Prop}
theorem w_while {c : VE → R Bool} {b : VE → Out} (I : Nat → VE → Prop) (turn : ∀ j e, I j e → wR (c e) fun t e => if t = true then ∃ i, j = i + 1 ∧ wC (b e) (I i) R' (I i) N else N e) :
    ∀ (n j : Nat) (e : VE), j < n → I j e → wO (whF c b n e) N R'
  | 0, j, e, hj, h => absurd hj (Nat.not_lt_zero _)
  | n + 1, j, e, hj, h => by
    obtain ⟨t, e1, q, k⟩ := wR_get (turn j e h)
    unfold whF
    rw [q, R.out_ok]
    cases t with
    | false =>
      have k' : N e1 := k
      with_unfolding_all exact k'
    | true =>
      obtain ⟨i, rfl, w⟩ : ∃ i, j = i + 1 ∧ wC (b e1) (I i) R' (I i) N := k
      have ih := fun e2 h2 => w_while I turn n i e2 (by omega) h2
      rw [if_pos rfl]
      cases q2 : b e1 with
      | nx e2 => rw [q2] at w; exact ih e2 (by with_unfolding_all exact w)
      | ct e2 => rw [q2] at w; exact ih e2 (by with_unfolding_all exact w)
      | bk e2 => rw [q2] at w; with_unfolding_all exact w
      | rt r e2 => rw [q2] at w; with_unfolding_all exact w
      | rz x e2 => rw [q2] at w; with_unfolding_all exact w.elim
      | no => rw [q2] at w; with_unfolding_all exact w.elim
theorem w_whl {n : Nat} {c : T} {b : List S} (I : Nat → VE → Prop) {j : Nat} (hj : j < n) (h : I j e) (turn : ∀ j e, I j e → wR (evT ce c e) fun t e => if t = true then ∃ i, j = i + 1 ∧ wC (exs ce b e) (I i) R' (I i) N else N e) :
    wO (ex ce (.whl n c b) e) N R' := by
  have := w_while I turn n j e hj h
  with_unfolding_all
    rw [ex]; exact this
end
end Vd
/-! the text of the law, told in Vd; printed by gen.py -/
namespace K02
open PySem PySem.Spec PyProof.Rows L2 Vd
def topS (i : Nat) : Stmt := PySem.Challenge.pw_bookpack_k02_ids_links_and_tokens.main.body.getD i (.Pass ⟨0, 0, 0, 0⟩)
def nsX : List Str := []
def con : Nat → D
  | 6 => .str [97, 98, 99, 100, 101, 102, 103, 104, 105, 106, 107, 108, 109, 110, 111, 112, 113, 114, 115, 116, 117, 118, 119, 120, 121, 122]
  | 3 => .int 16
  | 7 => .str [48, 49, 50, 51, 52, 53, 54, 55, 56, 57]
  | 5 => .int 37
  | 4 => .int 20
  | 2 => .tup [(.str [99, 111, 100, 101]), (.str [115, 108, 97, 110, 116]), (.str [115, 116, 114, 111, 110, 103])]
  | 0 => .tup [(.str [115, 101, 99, 116, 105, 111, 110]), (.str [113, 117, 111, 116, 101]), (.str [108, 105, 115, 116]), (.str [105, 116, 101, 109])]
  | 1 => .tup [(.str [104, 101, 97, 100, 49]), (.str [104, 101, 97, 100, 50]), (.str [104, 101, 97, 100, 51]), (.str [112, 97, 114, 97])]
  | _ => .non
/-! _law_begin -/
abbrev s_law_begin : Stmt := topS 16
def b_law_begin : List S := [
    .ret (.dct [.inr [99, 101, 108, 108, 115], .inr [97, 116], .inr [108, 101, 102, 116], .inr [117, 115, 101, 100]] [(.bin .add (.var 0) (.lst [(.int 0)])), (.int 0), (.int 0), (.int 0)])]
def cf_law_begin : Cf := ⟨["_law_script"], defScope s_law_begin, cellsOf (defScope s_law_begin), [], [], [], [], false, [], [], [], [], [], [], true⟩
theorem sc_law_begin : FnScope cf_law_begin.N ["_law_script"] (defScope s_law_begin) := ⟨rfl, rfl, rfl, by decide +kernel, rfl, by decide +kernel, by decide +kernel⟩
theorem ck_law_begin : chkSs b_law_begin cf_law_begin (defBody s_law_begin) = true := by decide +kernel
def fn_law_begin : Nat → List Vd.Arg → RF
  | _ => fun _ => .no
def ce_law_begin : CE := { con := con, fn := fn_law_begin }
def F_law_begin : List Vd.Arg → RF := runF ce_law_begin 1 b_law_begin
/-! _law_mixed -/
abbrev s_law_mixed : Stmt := topS 17
def b_law_mixed : List S := [
    .set 2 (.bin .mod (.bi .int [(.bin .add (.bin .add (.bin .add (.bin .mod (.bi .int [(.var 0)]) (.int 1000000007)) (.bin .mul (.bin .mul (.int 7919) (.var 1)) (.var 1))) (.bin .mul (.int 31) (.var 1))) (.int 7))]) (.int 2147483647)),
    .set 2 (.bin .mod (.bi .int [(.bin .mul (.bin .mod (.bi .int [(.bin .mul (.var 2) (.var 2))]) (.int 2147483647)) (.var 2))]) (.int 2147483629)),
    .ret (.bin .fdiv (.bin .mod (.bi .int [(.bin .mul (.var 2) (.bin .add (.int 69621) (.bin .mul (.int 2) (.bin .mod (.bi .int [(.var 1)]) (.int 1000)))))]) (.int 2147483647)) (.int 7))]
def cf_law_mixed : Cf := ⟨["_law_cell", "_law_k", "_law_mixed_here"], defScope s_law_mixed, cellsOf (defScope s_law_mixed), [], [], ["int"], [], false, [], [], [], [], [], [], true⟩
theorem sc_law_mixed : FnScope cf_law_mixed.N ["_law_cell", "_law_k"] (defScope s_law_mixed) := ⟨rfl, rfl, rfl, by decide +kernel, rfl, by decide +kernel, by decide +kernel⟩
theorem ck_law_mixed : chkSs b_law_mixed cf_law_mixed (defBody s_law_mixed) = true := by decide +kernel
def fn_law_mixed : Nat → List Vd.Arg → RF
  | _ => fun _ => .no
def ce_law_mixed : CE := { con := con, fn := fn_law_mixed }
def F_law_mixed : List Vd.Arg → RF := runF ce_law_mixed 3 b_law_mixed
/-! _law_next -/
abbrev s_law_next : Stmt := topS 18
def b_law_next : List S := [
    .ifs (.cmp .gt (.ix (.var 0) (.str [108, 101, 102, 116])) (.int 0))
    [.set 2 (.bin .mod (.bi .int [(.ix (.var 0) (.str [108, 101, 102, 116]))]) (.var 1)),
    .sub (.var 0) (.str [108, 101, 102, 116]) (.bin .fdiv (.ix (.var 0) (.str [108, 101, 102, 116])) (.var 1)),
    .ret (.var 2)]
    [],
    .set 3 (.ix (.var 0) (.str [99, 101, 108, 108, 115])),
    .set 4 (.ix (.var 3) (.bin .mod (.bi .int [(.ix (.var 0) (.str [97, 116]))]) (.bi .len [(.var 3)]))),
    .sub (.var 0) (.str [97, 116]) (.bin .add (.ix (.var 0) (.str [97, 116])) (.int 1)),
    .ifs (.and (.cmp .ge (.var 4) (.bin .pow (.int 10) (.int 18))) (.cmp .le (.ix (.var 0) (.str [97, 116])) (.bi .len [(.var 3)])))
    [.sub (.var 0) (.str [108, 101, 102, 116]) (.bin .fdiv (.var 4) (.var 1)),
    .ret (.bin .mod (.bi .int [(.var 4)]) (.var 1))]
    [],
    .sub (.var 0) (.str [117, 115, 101, 100]) (.bin .add (.ix (.var 0) (.str [117, 115, 101, 100])) (.int 1)),
    .ret (.bin .mod (.bi .int [(.call 7 [(.call 7 [(.var 4), (.ix (.var 0) (.str [97, 116]))]), (.ix (.var 0) (.str [117, 115, 101, 100]))])]) (.var 1))]
def cf_law_next : Cf := ⟨["_law_draw", "_law_bound", "_law_found", "_law_every", "_law_cell"], defScope s_law_next, cellsOf (defScope s_law_next), [("_law_mixed", 7, 2)], [], ["int", "len"], [], false, [], [], [], [], [], [], true⟩
theorem sc_law_next : FnScope cf_law_next.N ["_law_draw", "_law_bound"] (defScope s_law_next) := ⟨rfl, rfl, rfl, by decide +kernel, rfl, by decide +kernel, by decide +kernel⟩
theorem ck_law_next : chkSs b_law_next cf_law_next (defBody s_law_next) = true := by decide +kernel
def fn_law_next : Nat → List Vd.Arg → RF
  | 7 => fun as => F_law_mixed as
  | _ => fun _ => .no
def ce_law_next : CE := { con := con, fn := fn_law_next }
def F_law_next : List Vd.Arg → RF := runF ce_law_next 5 b_law_next
/-! _law_word -/
abbrev s_law_word : Stmt := topS 19
def b_law_word : List S := [
    .set 1 (.str [97, 98, 122, 48, 49, 57]),
    .set 2 (.ix (.lst [(.int 1), (.int 2), (.int 5), (.int 15), (.int 16), (.int 17)]) (.call 8 [(.var 0), (.int 6)])),
    .set 3 (.bin .add (.ix (.str [97, 107]) (.call 8 [(.var 0), (.int 2)])) (.pm .join (.str []) [(.lc (.ix (.var 1) (.call 8 [(.var 0), (.int 6)])) (.nm 7) .rng [(.bin .sub (.var 2) (.int 1))] none [7])])),
    .par [4, 5] [(.call 8 [(.var 0), (.var 2)]), (.call 8 [(.var 0), (.int 6)])],
    .set 6 (.ix (.lst [(.str [65]), (.str [45]), (.str [32]), (.str [55]), (.str [35]), (.str [10])]) (.call 8 [(.var 0), (.int 6)])),
    .ret (.ix (.lst [(.var 3), (.var 3), (.var 3), (.bin .add (.bin .add (.sl (.var 3) none (some (.var 4))) (.var 6)) (.sl (.var 3) (some (.bin .add (.var 4) (.int 1))) none)), (.bin .add (.str [55]) (.var 3)), (.str [])]) (.var 5))]
def cf_law_word : Cf := ⟨["_law_draw", "_law_letters", "_law_size", "_law_found", "_law_at", "_law_way", "_law_odd", "_law_k"], defScope s_law_word, cellsOf (defScope s_law_word), [("_law_next", 8, 2)], [], ["range"], [], false, [], [], [], [], [], [], true⟩
theorem sc_law_word : FnScope cf_law_word.N ["_law_draw"] (defScope s_law_word) := ⟨rfl, rfl, rfl, by decide +kernel, rfl, by decide +kernel, by decide +kernel⟩
theorem ck_law_word : chkSs b_law_word cf_law_word (defBody s_law_word) = true := by decide +kernel
def fn_law_word : Nat → List Vd.Arg → RF
  | 8 => fun as => F_law_next as
  | _ => fun _ => .no
def ce_law_word : CE := { con := con, fn := fn_law_word }
def F_law_word : List Vd.Arg → RF := runF ce_law_word 8 b_law_word
/-! _law_text -/
abbrev s_law_text : Stmt := topS 21
def b_law_text : List S := [
    .par [1, 2, 3] [(.call 9 [(.var 0)]), (.call 9 [(.var 0)]), (.ix (.lst [(.str [35]), (.str [35]), (.str []), (.str [35, 35]), (.str [32, 35])]) (.call 8 [(.var 0), (.int 5)]))],
    .set 4 (.ix (.lst [(.int 0), (.int 1), (.int 7), (.int 19), (.int 20), (.int 21)]) (.call 8 [(.var 0), (.int 6)])),
    .set 5 (.pm .join (.str []) [(.lc (.ix (.str [120, 89, 57, 35, 46, 58, 47, 126, 45]) (.call 8 [(.var 0), (.int 9)])) (.nm 9) .rng [(.var 4)] none [9])]),
    .par [6, 7] [(.call 8 [(.var 0), (.bin .add (.var 4) (.int 1))]), (.ix (.lst [(.str [32]), (.str [60]), (.str [62]), (.str [38]), (.str [10]), (.str [33])]) (.call 8 [(.var 0), (.int 6)]))],
    .set 8 (.lst [(.bin .add (.bin .add (.var 1) (.var 3)) (.var 2)), (.bin .add (.str [111, 117, 116, 58]) (.var 5)), (.bin .add (.bin .add (.bin .add (.str [111, 117, 116, 58]) (.sl (.var 5) none (some (.var 6)))) (.var 7)) (.sl (.var 5) (some (.bin .add (.var 6) (.int 1))) none)), (.bin .add (.str [79, 117, 116, 58]) (.var 5)), (.var 5), (.var 1)]),
    .ret (.ix (.var 8) (.call 8 [(.var 0), (.int 6)]))]
def cf_law_text : Cf := ⟨["_law_draw", "_law_one", "_law_other", "_law_mark", "_law_size", "_law_out", "_law_at", "_law_odd", "_law_some", "_law_k"], defScope s_law_text, cellsOf (defScope s_law_text), [("_law_word", 9, 1), ("_law_next", 8, 2)], [], ["range"], [], false, [], [], [], [], [], [], true⟩
theorem sc_law_text : FnScope cf_law_text.N ["_law_draw"] (defScope s_law_text) := ⟨rfl, rfl, rfl, by decide +kernel, rfl, by decide +kernel, by decide +kernel⟩
theorem ck_law_text : chkSs b_law_text cf_law_text (defBody s_law_text) = true := by decide +kernel
def fn_law_text : Nat → List Vd.Arg → RF
  | 9 => fun as => F_law_word as
  | 8 => fun as => F_law_next as
  | _ => fun _ => .no
def ce_law_text : CE := { con := con, fn := fn_law_text }
def F_law_text : List Vd.Arg → RF := runF ce_law_text 10 b_law_text
/-! _law_value -/
abbrev s_law_value : Stmt := topS 23
def b_law_value : List S := [
    .set 1 (.ix (.lst [(.str [111, 112, 101, 110]), (.str [99, 108, 111, 115, 101]), (.str [99, 104, 97, 114]), (.str [99, 104, 97, 114]), (.str [99, 104, 97, 114]), (.str [97, 110, 99, 104, 111, 114]), (.str [105, 109, 97, 103, 101]), (.str [98, 111, 120]), (.str [])]) (.call 8 [(.var 0), (.int 9)])),
    .set 2 (.ix (.lst [(.str [115, 101, 99, 116, 105, 111, 110]), (.str [113, 117, 111, 116, 101]), (.str [108, 105, 115, 116]), (.str [105, 116, 101, 109]), (.str [104, 101, 97, 100, 49]), (.str [104, 101, 97, 100, 50]), (.str [104, 101, 97, 100, 51]), (.str [112, 97, 114, 97]), (.str [104, 101, 97, 100, 52]), (.str [])]) (.call 8 [(.var 0), (.int 10)])),
    .set 3 (.ix (.lst [(.str [120]), (.str [32]), (.str [126]), (.str [60]), (.str [120, 121]), (.str []), (.str [10]), (.str [9]), .non, (.int 7)]) (.call 8 [(.var 0), (.int 10)])),
    .set 4 (.ix (.lst [(.tup []), (.tup [(.str [99, 111, 100, 101])]), (.tup [(.str [99, 111, 100, 101]), (.str [115, 108, 97, 110, 116]), (.str [115, 116, 114, 111, 110, 103])]), (.tup [(.str [115, 116, 114, 111, 110, 103]), (.str [99, 111, 100, 101])]), (.tup [(.str [115, 108, 97, 110, 116]), (.str [115, 108, 97, 110, 116])]), (.lst [(.str [99, 111, 100, 101])]), (.tup [(.str [98, 111, 108, 100])]), .non]) (.call 8 [(.var 0), (.int 8)])),
    .set 5 (.ix (.lst [.non, (.str [107, 49, 35, 110, 49]), (.str [111, 117, 116, 58, 120]), (.str [107, 49]), (.int 5), (.str [111, 117, 116, 58])]) (.call 8 [(.var 0), (.int 6)])),
    .ifs (.cmp .isin (.var 1) (.tup [(.str [111, 112, 101, 110]), (.str [99, 108, 111, 115, 101]), (.str [98, 111, 120])]))
    [.set 6 (.tup [(.var 1), (.var 2)])]
    [.set 6 (.ite (.cmp .eq (.var 1) (.str [99, 104, 97, 114])) (.tup [(.var 1), (.var 3), (.var 4), (.var 5)]) (.tup [(.var 1), (.call 9 [(.var 0)])]))],
    .set 7 (.ix (.lst [.non, (.tup []), (.str [120])]) (.call 8 [(.var 0), (.int 3)])),
    .ret (.ix (.lst [(.var 6), (.var 6), (.var 6), (.bin .add (.var 6) (.tup [(.var 7)])), (.sl (.var 6) none (some (.neg (.int 1)))), (.bi .list [(.var 6)])]) (.call 8 [(.var 0), (.int 6)]))]
def cf_law_value : Cf := ⟨["_law_draw", "_law_word_here", "_law_kind", "_law_sign", "_law_styles", "_law_link", "_law_found", "_law_more"], defScope s_law_value, cellsOf (defScope s_law_value), [("_law_next", 8, 2), ("_law_word", 9, 1)], [], ["list"], [], false, [], [], [], [], [], [], true⟩
theorem sc_law_value : FnScope cf_law_value.N ["_law_draw"] (defScope s_law_value) := ⟨rfl, rfl, rfl, by decide +kernel, rfl, by decide +kernel, by decide +kernel⟩
theorem ck_law_value : chkSs b_law_value cf_law_value (defBody s_law_value) = true := by decide +kernel
def fn_law_value : Nat → List Vd.Arg → RF
  | 8 => fun as => F_law_next as
  | 9 => fun as => F_law_word as
  | _ => fun _ => .no
def ce_law_value : CE := { con := con, fn := fn_law_value }
def F_law_value : List Vd.Arg → RF := runF ce_law_value 8 b_law_value
/-! _law_is_id -/
abbrev s_law_is_id : Stmt := topS 20
def b_law_is_id : List S := [
    .ifs (.or (.not (.isi (.var 0) [.str])) (.or (.not (.chn .le .le (.int 1) (.bi .len [(.var 0)]) (.int 16))) (.not (.chn .le .le (.str [97]) (.ix (.var 0) (.int 0)) (.str [122])))))
    [.ret (.bl false)]
    [],
    .ret (.cmp .eq (.lc (.var 1) (.nm 1) .seq [(.var 0)] (some (.not (.or (.chn .le .le (.str [97]) (.var 1) (.str [122])) (.chn .le .le (.str [48]) (.var 1) (.str [57]))))) [1]) (.lst []))]
def cf_law_is_id : Cf := ⟨["_law_thing", "_law_sign"], defScope s_law_is_id, cellsOf (defScope s_law_is_id), [], [], ["len", "isinstance", "str"], [], false, [], [], [], [], [], [], true⟩
theorem sc_law_is_id : FnScope cf_law_is_id.N ["_law_thing"] (defScope s_law_is_id) := ⟨rfl, rfl, rfl, by decide +kernel, rfl, by decide +kernel, by decide +kernel⟩
theorem ck_law_is_id : chkSs b_law_is_id cf_law_is_id (defBody s_law_is_id) = true := by decide +kernel
def fn_law_is_id : Nat → List Vd.Arg → RF
  | _ => fun _ => .no
def ce_law_is_id : CE := { con := con, fn := fn_law_is_id }
def F_law_is_id : List Vd.Arg → RF := runF ce_law_is_id 2 b_law_is_id
/-! _law_is_link -/
abbrev s_law_is_link : Stmt := topS 22
def b_law_is_link : List S := [
    .ifs (.not (.isi (.var 0) [.str]))
    [.ret (.bl false)]
    [],
    .ifs (.cmp .eq (.sl (.var 0) none (some (.int 4))) (.str [111, 117, 116, 58]))
    [.set 1 (.sl (.var 0) (some (.int 4)) none),
    .ret (.and (.chn .le .le (.int 1) (.bi .len [(.var 1)]) (.int 20)) (.cmp .eq (.lc (.var 2) (.nm 2) .seq [(.var 1)] (some (.or (.not (.chn .le .le (.str [33]) (.var 2) (.str [126]))) (.cmp .isin (.var 2) (.str [60, 62, 38])))) [2]) (.lst [])))]
    [],
    .ret (.and (.cmp .eq (.pm .count (.var 0) [(.str [35])]) (.int 1)) (.and (.call 10 [(.ix (.pm .split (.var 0) [(.str [35])]) (.int 0))]) (.call 10 [(.ix (.pm .split (.var 0) [(.str [35])]) (.int 1))])))]
def cf_law_is_link : Cf := ⟨["_law_thing", "_law_rest", "_law_sign"], defScope s_law_is_link, cellsOf (defScope s_law_is_link), [("_law_is_id", 10, 1)], [], ["isinstance", "str", "len"], [], false, [], [], [], [], [], [], true⟩
theorem sc_law_is_link : FnScope cf_law_is_link.N ["_law_thing"] (defScope s_law_is_link) := ⟨rfl, rfl, rfl, by decide +kernel, rfl, by decide +kernel, by decide +kernel⟩
theorem ck_law_is_link : chkSs b_law_is_link cf_law_is_link (defBody s_law_is_link) = true := by decide +kernel
def fn_law_is_link : Nat → List Vd.Arg → RF
  | 10 => fun as => F_law_is_id as
  | _ => fun _ => .no
def ce_law_is_link : CE := { con := con, fn := fn_law_is_link }
def F_law_is_link : List Vd.Arg → RF := runF ce_law_is_link 3 b_law_is_link
/-! _law_is_token -/
abbrev s_law_is_token : Stmt := topS 24
def b_law_is_token : List S := [
    .ifs (.or (.not (.isi (.var 0) [.tuple])) (.or (.cmp .lt (.bi .len [(.var 0)]) (.int 2)) (.not (.isi (.ix (.var 0) (.int 0)) [.str]))))
    [.ret (.bl false)]
    [],
    .ifs (.cmp .eq (.ix (.var 0) (.int 0)) (.str [99, 104, 97, 114]))
    [.ifs (.or (.cmp .ne (.bi .len [(.var 0)]) (.int 4)) (.or (.not (.isi (.ix (.var 0) (.int 1)) [.str])) (.or (.cmp .ne (.bi .len [(.ix (.var 0) (.int 1))]) (.int 1)) (.not (.chn .le .le (.str [32]) (.ix (.var 0) (.int 1)) (.str [126]))))))
    [.ret (.bl false)]
    [],
    .set 1 (.lst [(.tup []), (.tup [(.str [99, 111, 100, 101])]), (.tup [(.str [115, 108, 97, 110, 116])]), (.tup [(.str [115, 116, 114, 111, 110, 103])]), (.tup [(.str [99, 111, 100, 101]), (.str [115, 108, 97, 110, 116])]), (.tup [(.str [99, 111, 100, 101]), (.str [115, 116, 114, 111, 110, 103])]), (.tup [(.str [115, 108, 97, 110, 116]), (.str [115, 116, 114, 111, 110, 103])])]),
    .set 2 (.and (.isi (.ix (.var 0) (.int 2)) [.tuple]) (.cmp .isin (.ix (.var 0) (.int 2)) (.bin .add (.var 1) (.lst [(.tup [(.str [99, 111, 100, 101]), (.str [115, 108, 97, 110, 116]), (.str [115, 116, 114, 111, 110, 103])])])))),
    .ret (.and (.var 2) (.or (.cmp .is (.ix (.var 0) (.int 3)) .non) (.call 12 [(.ix (.var 0) (.int 3))])))]
    [],
    .ifs (.cmp .ne (.bi .len [(.var 0)]) (.int 2))
    [.ret (.bl false)]
    [],
    .ifs (.cmp .isin (.ix (.var 0) (.int 0)) (.tup [(.str [111, 112, 101, 110]), (.str [99, 108, 111, 115, 101])]))
    [.set 3 (.lst [(.str [115, 101, 99, 116, 105, 111, 110]), (.str [113, 117, 111, 116, 101]), (.str [108, 105, 115, 116]), (.str [105, 116, 101, 109]), (.str [104, 101, 97, 100, 49]), (.str [104, 101, 97, 100, 50]), (.str [104, 101, 97, 100, 51]), (.str [112, 97, 114, 97])]),
    .ret (.and (.isi (.ix (.var 0) (.int 1)) [.str]) (.cmp .isin (.ix (.var 0) (.int 1)) (.var 3)))]
    [],
    .ret (.and (.cmp .isin (.ix (.var 0) (.int 0)) (.tup [(.str [97, 110, 99, 104, 111, 114]), (.str [105, 109, 97, 103, 101])])) (.call 10 [(.ix (.var 0) (.int 1))]))]
def cf_law_is_token : Cf := ⟨["_law_thing", "_law_some", "_law_is_styled", "_law_kinds"], defScope s_law_is_token, cellsOf (defScope s_law_is_token), [("_law_is_link", 12, 1), ("_law_is_id", 10, 1)], [], ["isinstance", "str", "len", "tuple"], [], false, [], [], [], [], [], [], true⟩
theorem sc_law_is_token : FnScope cf_law_is_token.N ["_law_thing"] (defScope s_law_is_token) := ⟨rfl, rfl, rfl, by decide +kernel, rfl, by decide +kernel, by decide +kernel⟩
theorem ck_law_is_token : chkSs b_law_is_token cf_law_is_token (defBody s_law_is_token) = true := by decide +kernel
def fn_law_is_token : Nat → List Vd.Arg → RF
  | 12 => fun as => F_law_is_link as
  | 10 => fun as => F_law_is_id as
  | _ => fun _ => .no
def ce_law_is_token : CE := { con := con, fn := fn_law_is_token }
def F_law_is_token : List Vd.Arg → RF := runF ce_law_is_token 4 b_law_is_token
/-! is_id -/
abbrev s_is_id : Stmt := topS 10
def b_is_id : List S := [
    .ifs (.or (.not (.isi (.var 0) [.str])) (.or (.not (.chn .le .le (.int 1) (.bi .len [(.var 0)]) (.con 3))) (.cmp .notin (.ix (.var 0) (.int 0)) (.con 6))))
    [.ret (.bl false)]
    [],
    .ret (.bi .all [(.lc (.or (.cmp .isin (.var 1) (.con 6)) (.cmp .isin (.var 1) (.con 7))) (.nm 1) .seq [(.var 0)] none [1])])]
def cf_is_id : Cf := ⟨["value", "sign"], defScope s_is_id, cellsOf (defScope s_is_id), [], [("LETTERS", 6), ("MOST_NAME", 3), ("DIGITS", 7)], ["len", "isinstance", "str", "all"], [], false, [], [], [], [], [], [], true⟩
theorem sc_is_id : FnScope cf_is_id.N ["value"] (defScope s_is_id) := ⟨rfl, rfl, rfl, by decide +kernel, rfl, by decide +kernel, by decide +kernel⟩
theorem ck_is_id : chkSs b_is_id cf_is_id (defBody s_is_id) = true := by decide +kernel
def fn_is_id : Nat → List Vd.Arg → RF
  | _ => fun _ => .no
def ce_is_id : CE := { con := con, fn := fn_is_id }
def F_is_id : List Vd.Arg → RF := runF ce_is_id 2 b_is_id
/-! is_text -/
abbrev s_is_text : Stmt := topS 9
def b_is_text : List S := [
    .ret (.and (.isi (.var 0) [.str]) (.bi .all [(.lc (.and (.chn .le .le (.str [32]) (.var 1) (.str [126])) (.cmp .ne (.bi .ord [(.var 1)]) (.con 5))) (.nm 1) .seq [(.var 0)] none [1])]))]
def cf_is_text : Cf := ⟨["value", "sign"], defScope s_is_text, cellsOf (defScope s_is_text), [], [("PERCENT", 5)], ["all", "ord", "isinstance", "str"], [], false, [], [], [], [], [], [], true⟩
theorem sc_is_text : FnScope cf_is_text.N ["value"] (defScope s_is_text) := ⟨rfl, rfl, rfl, by decide +kernel, rfl, by decide +kernel, by decide +kernel⟩
theorem ck_is_text : chkSs b_is_text cf_is_text (defBody s_is_text) = true := by decide +kernel
def fn_is_text : Nat → List Vd.Arg → RF
  | _ => fun _ => .no
def ce_is_text : CE := { con := con, fn := fn_is_text }
def F_is_text : List Vd.Arg → RF := runF ce_is_text 2 b_is_text
/-! is_link -/
abbrev s_is_link : Stmt := topS 11
def b_is_link : List S := [
    .ifs (.not (.isi (.var 0) [.str]))
    [.ret (.bl false)]
    [],
    .ifs (.pm .startswith (.var 0) [(.str [111, 117, 116, 58])])
    [.set 1 (.sl (.var 0) (some (.int 4)) none),
    .ret (.and (.chn .le .le (.int 1) (.bi .len [(.var 1)]) (.con 4)) (.and (.call 0 [(.var 1)]) (.not (.bi .any [(.lc (.cmp .isin (.var 5) (.str [32, 60, 62, 38])) (.nm 5) .seq [(.var 1)] none [5])]))))]
    [],
    .unp (.tp [(.nm 2), (.nm 3), (.nm 4)]) (.pm .partition (.var 0) [(.str [35])]),
    .ret (.and (.call 1 [(.var 2)]) (.call 1 [(.var 4)]))]
def cf_is_link : Cf := ⟨["value", "rest", "key", "mark", "name", "sign"], defScope s_is_link, cellsOf (defScope s_is_link), [("is_text", 0, 1), ("is_id", 1, 1)], [("MOST_OUT", 4)], ["isinstance", "str", "any", "len"], [], false, [], [], [], [], [], [], true⟩
theorem sc_is_link : FnScope cf_is_link.N ["value"] (defScope s_is_link) := ⟨rfl, rfl, rfl, by decide +kernel, rfl, by decide +kernel, by decide +kernel⟩
theorem ck_is_link : chkSs b_is_link cf_is_link (defBody s_is_link) = true := by decide +kernel
def fn_is_link : Nat → List Vd.Arg → RF
  | 0 => fun as => F_is_text as
  | 1 => fun as => F_is_id as
  | _ => fun _ => .no
def ce_is_link : CE := { con := con, fn := fn_is_link }
def F_is_link : List Vd.Arg → RF := runF ce_is_link 6 b_is_link
/-! is_char -/
abbrev s_is_char : Stmt := topS 13
def b_is_char : List S := [
    .ifs (.or (.not (.call 0 [(.ix (.var 0) (.int 1))])) (.or (.cmp .ne (.bi .len [(.ix (.var 0) (.int 1))]) (.int 1)) (.not (.isi (.ix (.var 0) (.int 2)) [.tuple]))))
    [.ret (.bl false)]
    [],
    .ifs (.cmp .ne (.ix (.var 0) (.int 2)) (.bi .tuple [(.lc (.var 1) (.nm 1) .seq [(.con 2)] (some (.cmp .isin (.var 1) (.ix (.var 0) (.int 2)))) [1])]))
    [.ret (.bl false)]
    [],
    .ret (.or (.cmp .is (.ix (.var 0) (.int 3)) .non) (.call 2 [(.ix (.var 0) (.int 3))]))]
def cf_is_char : Cf := ⟨["value", "word"], defScope s_is_char, cellsOf (defScope s_is_char), [("is_text", 0, 1), ("is_link", 2, 1)], [("STYLES", 2)], ["isinstance", "tuple", "len"], [], false, [], [], [], [], [], [], true⟩
theorem sc_is_char : FnScope cf_is_char.N ["value"] (defScope s_is_char) := ⟨rfl, rfl, rfl, by decide +kernel, rfl, by decide +kernel, by decide +kernel⟩
theorem ck_is_char : chkSs b_is_char cf_is_char (defBody s_is_char) = true := by decide +kernel
def fn_is_char : Nat → List Vd.Arg → RF
  | 0 => fun as => F_is_text as
  | 2 => fun as => F_is_link as
  | _ => fun _ => .no
def ce_is_char : CE := { con := con, fn := fn_is_char }
def F_is_char : List Vd.Arg → RF := runF ce_is_char 2 b_is_char
/-! sort_of -/
abbrev s_sort_of : Stmt := topS 12
def b_sort_of : List S := [
    .ifs (.not (.isi (.var 0) [.str]))
    [.ret .non]
    [],
    .ifs (.cmp .isin (.var 0) (.con 0))
    [.ret (.str [98, 111, 120])]
    [],
    .ret (.ite (.cmp .isin (.var 0) (.con 1)) (.str [108, 105, 110, 101]) .non)]
def cf_sort_of : Cf := ⟨["kind"], defScope s_sort_of, cellsOf (defScope s_sort_of), [], [("BOX_KINDS", 0), ("LINE_KINDS", 1)], ["isinstance", "str"], [], false, [], [], [], [], [], [], true⟩
theorem sc_sort_of : FnScope cf_sort_of.N ["kind"] (defScope s_sort_of) := ⟨rfl, rfl, rfl, by decide +kernel, rfl, by decide +kernel, by decide +kernel⟩
theorem ck_sort_of : chkSs b_sort_of cf_sort_of (defBody s_sort_of) = true := by decide +kernel
def fn_sort_of : Nat → List Vd.Arg → RF
  | _ => fun _ => .no
def ce_sort_of : CE := { con := con, fn := fn_sort_of }
def F_sort_of : List Vd.Arg → RF := runF ce_sort_of 1 b_sort_of
/-! is_token -/
abbrev s_is_token : Stmt := topS 14
def b_is_token : List S := [
    .ifs (.or (.not (.isi (.var 0) [.tuple])) (.or (.cmp .lt (.bi .len [(.var 0)]) (.int 2)) (.not (.isi (.ix (.var 0) (.int 0)) [.str]))))
    [.ret (.bl false)]
    [],
    .ifs (.cmp .eq (.ix (.var 0) (.int 0)) (.str [99, 104, 97, 114]))
    [.ret (.and (.cmp .eq (.bi .len [(.var 0)]) (.int 4)) (.call 4 [(.var 0)]))]
    [],
    .ifs (.cmp .ne (.bi .len [(.var 0)]) (.int 2))
    [.ret (.bl false)]
    [],
    .ifs (.or (.cmp .eq (.ix (.var 0) (.int 0)) (.str [111, 112, 101, 110])) (.cmp .eq (.ix (.var 0) (.int 0)) (.str [99, 108, 111, 115, 101])))
    [.ret (.cmp .isnt (.call 3 [(.ix (.var 0) (.int 1))]) .non)]
    [],
    .ret (.and (.cmp .isin (.ix (.var 0) (.int 0)) (.tup [(.str [97, 110, 99, 104, 111, 114]), (.str [105, 109, 97, 103, 101])])) (.call 1 [(.ix (.var 0) (.int 1))]))]
def cf_is_token : Cf := ⟨["value"], defScope s_is_token, cellsOf (defScope s_is_token), [("is_char", 4, 1), ("sort_of", 3, 1), ("is_id", 1, 1)], [], ["isinstance", "str", "len", "tuple"], [], false, [], [], [], [], [], [], true⟩
theorem sc_is_token : FnScope cf_is_token.N ["value"] (defScope s_is_token) := ⟨rfl, rfl, rfl, by decide +kernel, rfl, by decide +kernel, by decide +kernel⟩
theorem ck_is_token : chkSs b_is_token cf_is_token (defBody s_is_token) = true := by decide +kernel
def fn_is_token : Nat → List Vd.Arg → RF
  | 4 => fun as => F_is_char as
  | 3 => fun as => F_sort_of as
  | 1 => fun as => F_is_id as
  | _ => fun _ => .no
def ce_is_token : CE := { con := con, fn := fn_is_token }
def F_is_token : List Vd.Arg → RF := runF ce_is_token 1 b_is_token
/-! law -/
abbrev s_law : Stmt := topS 25
def b_law : List S := [
    .set 1 (.call 6 [(.var 0)]),
    .fors (.nm 2) .rng [(.bi .min [(.int 30), (.bin .add (.int 8) (.bi .len [(.var 0)]))])] [.set 3 (.lst [.non, (.int 5), (.bl true), (.tup []), (.lst [(.str [97])]), (.dct [] []), (.tup [(.str [111, 112, 101, 110])]), (.bin .pow (.int 10) (.int 20)), (.tup [(.lst []), (.str [112, 97, 114, 97])]), (.tup [(.dct [] []), (.str [120]), (.tup []), .non])]),
    .set 3 (.ix (.var 3) (.call 8 [(.var 1), (.int 10)])),
    .fors (.nm 4) .seq [(.lst [(.call 9 [(.var 1)]), (.call 11 [(.var 1)]), (.call 13 [(.var 1)]), (.call 13 [(.var 1)]), (.var 3)])] [.set 5 (.lst [(.call 10 [(.var 4)]), (.call 12 [(.var 4)]), (.call 14 [(.var 4)])]),
    .ifs (.cmp .ne (.bi .reprd [(.lst [(.call 1 [(.var 4)]), (.call 2 [(.var 4)]), (.call 5 [(.var 4)])])]) (.bi .reprd [(.var 5)]))
    [.ret (.bl false)]
    [],
    .ifs (.cmp .ne (.bi .reprd [(.lst [(.call 1 [(.var 4)]), (.call 2 [(.var 4)]), (.call 5 [(.var 4)])])]) (.bi .reprd [(.var 5)]))
    [.ret (.bl false)]
    []]],
    .ret (.bl true)]
def cf_law : Cf := ⟨["_law_script", "_law_draw", "_law_turn", "_law_odd", "_law_thing", "_law_due"], defScope s_law, cellsOf (defScope s_law), [("_law_begin", 6, 1), ("_law_next", 8, 2), ("_law_word", 9, 1), ("_law_text", 11, 1), ("_law_value", 13, 1), ("_law_is_id", 10, 1), ("_law_is_link", 12, 1), ("_law_is_token", 14, 1), ("is_id", 1, 1), ("is_link", 2, 1), ("is_token", 5, 1)], [], ["range", "min", "len", "repr"], [("is_id", 1, ["value"], 0), ("is_link", 2, ["value"], 0), ("is_token", 5, ["value"], 0)], false, [], [], [], [], [], [], true⟩
theorem sc_law : FnScope cf_law.N ["_law_script"] (defScope s_law) := ⟨rfl, rfl, rfl, by decide +kernel, rfl, by decide +kernel, by decide +kernel⟩
theorem ck_law : chkSs b_law cf_law (defBody s_law) = true := by decide +kernel
def fn_law : Nat → List Vd.Arg → RF
  | 6 => fun as => F_law_begin as
  | 8 => fun as => F_law_next as
  | 9 => fun as => F_law_word as
  | 11 => fun as => F_law_text as
  | 13 => fun as => F_law_value as
  | 10 => fun as => F_law_is_id as
  | 12 => fun as => F_law_is_link as
  | 14 => fun as => F_law_is_token as
  | 1 => fun as => F_is_id as
  | 2 => fun as => F_is_link as
  | 5 => fun as => F_is_token as
  | _ => fun _ => .no
def ce_law : CE := { con := con, fn := fn_law }
def F_law : List Vd.Arg → RF := runF ce_law 6 b_law
section
theorem all_mk {l : PySem.W.OpenLaw} {w : World} {K : PySem.W.Frag} {h : Heap} {mg : Str → Option Value} {fa f1 f2 f3 f4 f5 f6 f7 f8 f9 f10 f11 f12 f13 f14 f15 f16 : Addr} (X : K.In h) (G : h.Ns mainGlobals mg) (hfa : mg "law" = some (.ref fa))
    {od1 od2 od3 od4 od5 od6 od7 od8 od9 od10 od11 od12 od13 od14 od15 od16 an1 an2 an3 an4 an5 an6 an7 an8 an9 an10 an11 an12 an13 an14 an15 an16 : Option Addr} {sl1 sl2 sl3 sl4 sl5 sl6 sl7 sl8 sl9 sl10 sl11 sl12 sl13 sl14 sl15 sl16 : Array (Option Value)} {oc1 oc2 oc3 oc4 oc5 oc6 oc7 oc8 oc9 oc10 oc11 oc12 oc13 oc14 oc15 oc16 kV1 kV2 kV3 kV4 kV5 kV6 kV7 kV8 kV9 kV10 kV11 kV12 kV13 kV14 kV15 kV16 dc1 dc2 dc3 dc4 dc5 dc6 dc7 dc8 dc9 dc10 dc11 dc12 dc13 dc14 dc15 dc16 pm1 pm2 pm3 pm4 pm5 pm6 pm7 pm8 pm9 pm10 pm11 pm12 pm13 pm14 pm15 pm16 cd1 cd2 cd3 cd4 cd5 cd6 cd7 cd8 cd9 cd10 cd11 cd12 cd13 cd14 cd15 cd16 ct1 ct2 ct3 ct4 ct5 ct6 ct7 ct8 ct9 ct10 ct11 ct12 ct13 ct14 ct15 ct16 : Value} {t1 t2 t3 t4 t5 : Tok} {q6 : Addr} {qd6 : Option Addr} {qi6 : Array Value} {qn6 : Nat} {qs6 : Array (Option Value)} {q7 : Addr} {qd7 : Option Addr} {qi7 : Array Value} {qn7 : Nat} {qs7 : Array (Option Value)} {q8 : Addr} {qd8 : Option Addr} {qi8 : Array Value} {qn8 : Nat} {qs8 : Array (Option Value)}
    (a1 : PySem.W.nsIn K mainGlobals "_law_begin" = some (some (.ref f1))) (l1 : K.lookup f1 = some ⟨oc1, od1, .func (PySem.W.fnOf "_law_begin" "_law_begin" (defArgs s_law_begin) (defBody s_law_begin) (defScope s_law_begin) .none kV1 dc1 pm1 an1 cd1 ct1), sl1⟩) (c1 : PySem.W.codeIn K cd1 "_law_begin" = true) (k1 : PySem.W.keepIn K (.ref f1) = true)
    (a2 : PySem.W.nsIn K mainGlobals "_law_mixed" = some (some (.ref f2))) (l2 : K.lookup f2 = some ⟨oc2, od2, .func (PySem.W.fnOf "_law_mixed" "_law_mixed" (defArgs s_law_mixed) (defBody s_law_mixed) (defScope s_law_mixed) .none kV2 dc2 pm2 an2 cd2 ct2), sl2⟩) (c2 : PySem.W.codeIn K cd2 "_law_mixed" = true) (k2 : PySem.W.keepIn K (.ref f2) = true)
    (a3 : PySem.W.nsIn K mainGlobals "_law_next" = some (some (.ref f3))) (l3 : K.lookup f3 = some ⟨oc3, od3, .func (PySem.W.fnOf "_law_next" "_law_next" (defArgs s_law_next) (defBody s_law_next) (defScope s_law_next) .none kV3 dc3 pm3 an3 cd3 ct3), sl3⟩) (c3 : PySem.W.codeIn K cd3 "_law_next" = true) (k3 : PySem.W.keepIn K (.ref f3) = true)
    (a4 : PySem.W.nsIn K mainGlobals "_law_word" = some (some (.ref f4))) (l4 : K.lookup f4 = some ⟨oc4, od4, .func (PySem.W.fnOf "_law_word" "_law_word" (defArgs s_law_word) (defBody s_law_word) (defScope s_law_word) .none kV4 dc4 pm4 an4 cd4 ct4), sl4⟩) (c4 : PySem.W.codeIn K cd4 "_law_word" = true) (k4 : PySem.W.keepIn K (.ref f4) = true)
    (a5 : PySem.W.nsIn K mainGlobals "_law_text" = some (some (.ref f5))) (l5 : K.lookup f5 = some ⟨oc5, od5, .func (PySem.W.fnOf "_law_text" "_law_text" (defArgs s_law_text) (defBody s_law_text) (defScope s_law_text) .none kV5 dc5 pm5 an5 cd5 ct5), sl5⟩) (c5 : PySem.W.codeIn K cd5 "_law_text" = true) (k5 : PySem.W.keepIn K (.ref f5) = true)
    (a6 : PySem.W.nsIn K mainGlobals "_law_value" = some (some (.ref f6))) (l6 : K.lookup f6 = some ⟨oc6, od6, .func (PySem.W.fnOf "_law_value" "_law_value" (defArgs s_law_value) (defBody s_law_value) (defScope s_law_value) .none kV6 dc6 pm6 an6 cd6 ct6), sl6⟩) (c6 : PySem.W.codeIn K cd6 "_law_value" = true) (k6 : PySem.W.keepIn K (.ref f6) = true)
    (a7 : PySem.W.nsIn K mainGlobals "_law_is_id" = some (some (.ref f7))) (l7 : K.lookup f7 = some ⟨oc7, od7, .func (PySem.W.fnOf "_law_is_id" "_law_is_id" (defArgs s_law_is_id) (defBody s_law_is_id) (defScope s_law_is_id) .none kV7 dc7 pm7 an7 cd7 ct7), sl7⟩) (c7 : PySem.W.codeIn K cd7 "_law_is_id" = true) (k7 : PySem.W.keepIn K (.ref f7) = true)
    (a8 : PySem.W.nsIn K mainGlobals "_law_is_link" = some (some (.ref f8))) (l8 : K.lookup f8 = some ⟨oc8, od8, .func (PySem.W.fnOf "_law_is_link" "_law_is_link" (defArgs s_law_is_link) (defBody s_law_is_link) (defScope s_law_is_link) .none kV8 dc8 pm8 an8 cd8 ct8), sl8⟩) (c8 : PySem.W.codeIn K cd8 "_law_is_link" = true) (k8 : PySem.W.keepIn K (.ref f8) = true)
    (a9 : PySem.W.nsIn K mainGlobals "_law_is_token" = some (some (.ref f9))) (l9 : K.lookup f9 = some ⟨oc9, od9, .func (PySem.W.fnOf "_law_is_token" "_law_is_token" (defArgs s_law_is_token) (defBody s_law_is_token) (defScope s_law_is_token) .none kV9 dc9 pm9 an9 cd9 ct9), sl9⟩) (c9 : PySem.W.codeIn K cd9 "_law_is_token" = true) (k9 : PySem.W.keepIn K (.ref f9) = true)
    (a10 : PySem.W.nsIn K mainGlobals "is_id" = some (some (.ref f10))) (l10 : K.lookup f10 = some ⟨oc10, od10, .func (PySem.W.fnOf "is_id" "is_id" (defArgs s_is_id) (defBody s_is_id) (defScope s_is_id) .none kV10 dc10 pm10 an10 cd10 ct10), sl10⟩) (c10 : PySem.W.codeIn K cd10 "is_id" = true) (k10 : PySem.W.keepIn K (.ref f10) = true)
    (a11 : PySem.W.nsIn K mainGlobals "is_text" = some (some (.ref f11))) (l11 : K.lookup f11 = some ⟨oc11, od11, .func (PySem.W.fnOf "is_text" "is_text" (defArgs s_is_text) (defBody s_is_text) (defScope s_is_text) .none kV11 dc11 pm11 an11 cd11 ct11), sl11⟩) (c11 : PySem.W.codeIn K cd11 "is_text" = true) (k11 : PySem.W.keepIn K (.ref f11) = true)
    (a12 : PySem.W.nsIn K mainGlobals "is_link" = some (some (.ref f12))) (l12 : K.lookup f12 = some ⟨oc12, od12, .func (PySem.W.fnOf "is_link" "is_link" (defArgs s_is_link) (defBody s_is_link) (defScope s_is_link) .none kV12 dc12 pm12 an12 cd12 ct12), sl12⟩) (c12 : PySem.W.codeIn K cd12 "is_link" = true) (k12 : PySem.W.keepIn K (.ref f12) = true)
    (a13 : PySem.W.nsIn K mainGlobals "is_char" = some (some (.ref f13))) (l13 : K.lookup f13 = some ⟨oc13, od13, .func (PySem.W.fnOf "is_char" "is_char" (defArgs s_is_char) (defBody s_is_char) (defScope s_is_char) .none kV13 dc13 pm13 an13 cd13 ct13), sl13⟩) (c13 : PySem.W.codeIn K cd13 "is_char" = true) (k13 : PySem.W.keepIn K (.ref f13) = true)
    (a14 : PySem.W.nsIn K mainGlobals "sort_of" = some (some (.ref f14))) (l14 : K.lookup f14 = some ⟨oc14, od14, .func (PySem.W.fnOf "sort_of" "sort_of" (defArgs s_sort_of) (defBody s_sort_of) (defScope s_sort_of) .none kV14 dc14 pm14 an14 cd14 ct14), sl14⟩) (c14 : PySem.W.codeIn K cd14 "sort_of" = true) (k14 : PySem.W.keepIn K (.ref f14) = true)
    (a15 : PySem.W.nsIn K mainGlobals "is_token" = some (some (.ref f15))) (l15 : K.lookup f15 = some ⟨oc15, od15, .func (PySem.W.fnOf "is_token" "is_token" (defArgs s_is_token) (defBody s_is_token) (defScope s_is_token) .none kV15 dc15 pm15 an15 cd15 ct15), sl15⟩) (c15 : PySem.W.codeIn K cd15 "is_token" = true) (k15 : PySem.W.keepIn K (.ref f15) = true)
    (a16 : PySem.W.nsIn K mainGlobals "law" = some (some (.ref f16))) (l16 : K.lookup f16 = some ⟨oc16, od16, .func (PySem.W.fnOf "law" "law" (defArgs s_law) (defBody s_law) (defScope s_law) .none kV16 dc16 pm16 an16 cd16 ct16), sl16⟩) (c16 : PySem.W.codeIn K cd16 "law" = true) (k16 : PySem.W.keepIn K (.ref f16) = true)
    (z1 : PySem.W.nsIn K mainGlobals "int" = some none)
    (z2 : PySem.W.nsIn K mainGlobals "len" = some none)
    (z3 : PySem.W.nsIn K mainGlobals "range" = some none)
    (z4 : PySem.W.nsIn K mainGlobals "list" = some none)
    (z5 : PySem.W.nsIn K mainGlobals "isinstance" = some none)
    (z6 : PySem.W.nsIn K mainGlobals "str" = some none)
    (z7 : PySem.W.nsIn K mainGlobals "tuple" = some none)
    (z8 : PySem.W.nsIn K mainGlobals "all" = some none)
    (z9 : PySem.W.nsIn K mainGlobals "ord" = some none)
    (z10 : PySem.W.nsIn K mainGlobals "any" = some none)
    (z11 : PySem.W.nsIn K mainGlobals "min" = some none)
    (z12 : PySem.W.nsIn K mainGlobals "repr" = some none)
    (v1 : PySem.W.nsIn K mainGlobals "LETTERS" = some (some (.str "abcdefghijklmnopqrstuvwxyz" t1)))
    (v2 : PySem.W.nsIn K mainGlobals "MOST_NAME" = some (some (.int 16 t2)))
    (v3 : PySem.W.nsIn K mainGlobals "DIGITS" = some (some (.str "0123456789" t3)))
    (v4 : PySem.W.nsIn K mainGlobals "PERCENT" = some (some (.int 37 t4)))
    (v5 : PySem.W.nsIn K mainGlobals "MOST_OUT" = some (some (.int 20 t5)))
    (v6 : PySem.W.nsIn K mainGlobals "STYLES" = some (some (.ref q6))) (w6 : K.lookup q6 = some ⟨.type "tuple", qd6, .seq qi6 qn6, qs6⟩) (x6 : litsB [.str [99, 111, 100, 101], .str [115, 108, 97, 110, 116], .str [115, 116, 114, 111, 110, 103]] qi6.toList = true)
    (v7 : PySem.W.nsIn K mainGlobals "BOX_KINDS" = some (some (.ref q7))) (w7 : K.lookup q7 = some ⟨.type "tuple", qd7, .seq qi7 qn7, qs7⟩) (x7 : litsB [.str [115, 101, 99, 116, 105, 111, 110], .str [113, 117, 111, 116, 101], .str [108, 105, 115, 116], .str [105, 116, 101, 109]] qi7.toList = true)
    (v8 : PySem.W.nsIn K mainGlobals "LINE_KINDS" = some (some (.ref q8))) (w8 : K.lookup q8 = some ⟨.type "tuple", qd8, .seq qi8 qn8, qs8⟩) (x8 : litsB [.str [104, 101, 97, 100, 49], .str [104, 101, 97, 100, 50], .str [104, 101, 97, 100, 51], .str [112, 97, 114, 97]] qi8.toList = true)
    : ∃ fd : FuncData, (∀ (s : Shared) (v : Value), BindsTo s fd ⟨[v], []⟩ [("_law_script", v)]) ∧ ∀ base : Heap, K.In base → base.Ns mainGlobals mg → FnR true l.prog w K mg base (L2.CX l.prog w) 5 fa fd ["_law_script"] (spD (gR K [] [] nsX) 1 F_law) := by
  have e := hfa.symm.trans (PySem.W.mg_of X G a16)
  cases e
  have E1 := fun_mk (st := s_law_begin) l1 c1 k1
  have b1 := E1.binds (ps := ["_law_script"]) fun _ _ _ _ _ _ us hl => match us, hl with | [_], _ => rfl
  have E2 := fun_mk (st := s_law_mixed) l2 c2 k2
  have b2 := E2.binds (ps := ["_law_cell", "_law_k"]) fun _ _ _ _ _ _ us hl => match us, hl with | [_, _], _ => rfl
  have E3 := fun_mk (st := s_law_next) l3 c3 k3
  have b3 := E3.binds (ps := ["_law_draw", "_law_bound"]) fun _ _ _ _ _ _ us hl => match us, hl with | [_, _], _ => rfl
  have E4 := fun_mk (st := s_law_word) l4 c4 k4
  have b4 := E4.binds (ps := ["_law_draw"]) fun _ _ _ _ _ _ us hl => match us, hl with | [_], _ => rfl
  have E5 := fun_mk (st := s_law_text) l5 c5 k5
  have b5 := E5.binds (ps := ["_law_draw"]) fun _ _ _ _ _ _ us hl => match us, hl with | [_], _ => rfl
  have E6 := fun_mk (st := s_law_value) l6 c6 k6
  have b6 := E6.binds (ps := ["_law_draw"]) fun _ _ _ _ _ _ us hl => match us, hl with | [_], _ => rfl
  have E7 := fun_mk (st := s_law_is_id) l7 c7 k7
  have b7 := E7.binds (ps := ["_law_thing"]) fun _ _ _ _ _ _ us hl => match us, hl with | [_], _ => rfl
  have E8 := fun_mk (st := s_law_is_link) l8 c8 k8
  have b8 := E8.binds (ps := ["_law_thing"]) fun _ _ _ _ _ _ us hl => match us, hl with | [_], _ => rfl
  have E9 := fun_mk (st := s_law_is_token) l9 c9 k9
  have b9 := E9.binds (ps := ["_law_thing"]) fun _ _ _ _ _ _ us hl => match us, hl with | [_], _ => rfl
  have E10 := fun_mk (st := s_is_id) l10 c10 k10
  have b10 := E10.binds (ps := ["value"]) fun _ _ _ _ _ _ us hl => match us, hl with | [_], _ => rfl
  have E11 := fun_mk (st := s_is_text) l11 c11 k11
  have b11 := E11.binds (ps := ["value"]) fun _ _ _ _ _ _ us hl => match us, hl with | [_], _ => rfl
  have E12 := fun_mk (st := s_is_link) l12 c12 k12
  have b12 := E12.binds (ps := ["value"]) fun _ _ _ _ _ _ us hl => match us, hl with | [_], _ => rfl
  have E13 := fun_mk (st := s_is_char) l13 c13 k13
  have b13 := E13.binds (ps := ["value"]) fun _ _ _ _ _ _ us hl => match us, hl with | [_], _ => rfl
  have E14 := fun_mk (st := s_sort_of) l14 c14 k14
  have b14 := E14.binds (ps := ["kind"]) fun _ _ _ _ _ _ us hl => match us, hl with | [_], _ => rfl
  have E15 := fun_mk (st := s_is_token) l15 c15 k15
  have b15 := E15.binds (ps := ["value"]) fun _ _ _ _ _ _ us hl => match us, hl with | [_], _ => rfl
  have E16 := fun_mk (st := s_law) l16 c16 k16
  refine ⟨PySem.W.fnOf "law" "law" (defArgs s_law) (defBody s_law) (defScope s_law) .none kV16 dc16 pm16 an16 cd16 ct16, fun s v => .of_eq rfl, fun base _ _ => ?_⟩
  have D1 : FD l.prog w mg base (gR K [] [] nsX) "_law_begin" F_law_begin 1 1 := fd_ok (g := (gR K [] [] nsX)) (ce := ce_law_begin) (cf := cf_law_begin) E1 (PySem.W.mg_of X G a1) b1 sc_law_begin (by decide) rfl ck_law_begin trivial trivial trivial
  have D2 : FD l.prog w mg base (gR K [] [] nsX) "_law_mixed" F_law_mixed 2 1 := fd_ok (g := (gR K [] [] nsX)) (ce := ce_law_mixed) (cf := cf_law_mixed) E2 (PySem.W.mg_of X G a2) b2 sc_law_mixed (by decide) rfl ck_law_mixed trivial trivial ⟨PySem.W.mg_none_of X G z1, trivial⟩
  have D3 : FD l.prog w mg base (gR K [] [] nsX) "_law_next" F_law_next 2 2 := fd_ok (g := (gR K [] [] nsX)) (ce := ce_law_next) (cf := cf_law_next) E3 (PySem.W.mg_of X G a3) b3 sc_law_next (by decide) rfl ck_law_next ⟨⟨1, by decide, D2⟩, trivial⟩ trivial ⟨PySem.W.mg_none_of X G z1, PySem.W.mg_none_of X G z2, trivial⟩
  have D4 : FD l.prog w mg base (gR K [] [] nsX) "_law_word" F_law_word 1 3 := fd_ok (g := (gR K [] [] nsX)) (ce := ce_law_word) (cf := cf_law_word) E4 (PySem.W.mg_of X G a4) b4 sc_law_word (by decide) rfl ck_law_word ⟨⟨2, by decide, D3⟩, trivial⟩ trivial ⟨PySem.W.mg_none_of X G z3, trivial⟩
  have D5 : FD l.prog w mg base (gR K [] [] nsX) "_law_text" F_law_text 1 4 := fd_ok (g := (gR K [] [] nsX)) (ce := ce_law_text) (cf := cf_law_text) E5 (PySem.W.mg_of X G a5) b5 sc_law_text (by decide) rfl ck_law_text ⟨⟨3, by decide, D4⟩, ⟨2, by decide, D3⟩, trivial⟩ trivial ⟨PySem.W.mg_none_of X G z3, trivial⟩
  have D6 : FD l.prog w mg base (gR K [] [] nsX) "_law_value" F_law_value 1 4 := fd_ok (g := (gR K [] [] nsX)) (ce := ce_law_value) (cf := cf_law_value) E6 (PySem.W.mg_of X G a6) b6 sc_law_value (by decide) rfl ck_law_value ⟨⟨2, by decide, D3⟩, ⟨3, by decide, D4⟩, trivial⟩ trivial ⟨PySem.W.mg_none_of X G z4, trivial⟩
  have D7 : FD l.prog w mg base (gR K [] [] nsX) "_law_is_id" F_law_is_id 1 1 := fd_ok (g := (gR K [] [] nsX)) (ce := ce_law_is_id) (cf := cf_law_is_id) E7 (PySem.W.mg_of X G a7) b7 sc_law_is_id (by decide) rfl ck_law_is_id trivial trivial ⟨PySem.W.mg_none_of X G z2, PySem.W.mg_none_of X G z5, PySem.W.mg_none_of X G z6, trivial⟩
  have D8 : FD l.prog w mg base (gR K [] [] nsX) "_law_is_link" F_law_is_link 1 2 := fd_ok (g := (gR K [] [] nsX)) (ce := ce_law_is_link) (cf := cf_law_is_link) E8 (PySem.W.mg_of X G a8) b8 sc_law_is_link (by decide) rfl ck_law_is_link ⟨⟨1, by decide, D7⟩, trivial⟩ trivial ⟨PySem.W.mg_none_of X G z5, PySem.W.mg_none_of X G z6, PySem.W.mg_none_of X G z2, trivial⟩
  have D9 : FD l.prog w mg base (gR K [] [] nsX) "_law_is_token" F_law_is_token 1 3 := fd_ok (g := (gR K [] [] nsX)) (ce := ce_law_is_token) (cf := cf_law_is_token) E9 (PySem.W.mg_of X G a9) b9 sc_law_is_token (by decide) rfl ck_law_is_token ⟨⟨2, by decide, D8⟩, ⟨1, by decide, D7⟩, trivial⟩ trivial ⟨PySem.W.mg_none_of X G z5, PySem.W.mg_none_of X G z6, PySem.W.mg_none_of X G z2, PySem.W.mg_none_of X G z7, trivial⟩
  have D10 : FD l.prog w mg base (gR K [] [] nsX) "is_id" F_is_id 1 1 := fd_ok (g := (gR K [] [] nsX)) (ce := ce_is_id) (cf := cf_is_id) E10 (PySem.W.mg_of X G a10) b10 sc_is_id (by decide) rfl ck_is_id trivial ⟨con_str (PySem.W.mg_of X G v1) rfl (by decide) rfl, con_int (PySem.W.mg_of X G v2) rfl, con_str (PySem.W.mg_of X G v3) rfl (by decide) rfl, trivial⟩ ⟨PySem.W.mg_none_of X G z2, PySem.W.mg_none_of X G z5, PySem.W.mg_none_of X G z6, PySem.W.mg_none_of X G z8, trivial⟩
  have K10_0 : FDK l.prog w mg base (gR K [] [] nsX) "is_id" F_is_id ["value"] 0 1 := fdk_ok (g := (gR K [] [] nsX)) (ce := ce_is_id) (cf := cf_is_id) E10 (PySem.W.mg_of X G a10) (kb_of E10 fun _ _ _ _ _ _ us ws h1 h2 => match us, ws, h1, h2 with | [], [_], _, _ => rfl) sc_is_id (by decide) rfl ck_is_id trivial ⟨con_str (PySem.W.mg_of X G v1) rfl (by decide) rfl, con_int (PySem.W.mg_of X G v2) rfl, con_str (PySem.W.mg_of X G v3) rfl (by decide) rfl, trivial⟩ ⟨PySem.W.mg_none_of X G z2, PySem.W.mg_none_of X G z5, PySem.W.mg_none_of X G z6, PySem.W.mg_none_of X G z8, trivial⟩
  have D11 : FD l.prog w mg base (gR K [] [] nsX) "is_text" F_is_text 1 1 := fd_ok (g := (gR K [] [] nsX)) (ce := ce_is_text) (cf := cf_is_text) E11 (PySem.W.mg_of X G a11) b11 sc_is_text (by decide) rfl ck_is_text trivial ⟨con_int (PySem.W.mg_of X G v4) rfl, trivial⟩ ⟨PySem.W.mg_none_of X G z8, PySem.W.mg_none_of X G z9, PySem.W.mg_none_of X G z5, PySem.W.mg_none_of X G z6, trivial⟩
  have D12 : FD l.prog w mg base (gR K [] [] nsX) "is_link" F_is_link 1 2 := fd_ok (g := (gR K [] [] nsX)) (ce := ce_is_link) (cf := cf_is_link) E12 (PySem.W.mg_of X G a12) b12 sc_is_link (by decide) rfl ck_is_link ⟨⟨1, by decide, D11⟩, ⟨1, by decide, D10⟩, trivial⟩ ⟨con_int (PySem.W.mg_of X G v5) rfl, trivial⟩ ⟨PySem.W.mg_none_of X G z5, PySem.W.mg_none_of X G z6, PySem.W.mg_none_of X G z10, PySem.W.mg_none_of X G z2, trivial⟩
  have K12_0 : FDK l.prog w mg base (gR K [] [] nsX) "is_link" F_is_link ["value"] 0 2 := fdk_ok (g := (gR K [] [] nsX)) (ce := ce_is_link) (cf := cf_is_link) E12 (PySem.W.mg_of X G a12) (kb_of E12 fun _ _ _ _ _ _ us ws h1 h2 => match us, ws, h1, h2 with | [], [_], _, _ => rfl) sc_is_link (by decide) rfl ck_is_link ⟨⟨1, by decide, D11⟩, ⟨1, by decide, D10⟩, trivial⟩ ⟨con_int (PySem.W.mg_of X G v5) rfl, trivial⟩ ⟨PySem.W.mg_none_of X G z5, PySem.W.mg_none_of X G z6, PySem.W.mg_none_of X G z10, PySem.W.mg_none_of X G z2, trivial⟩
  have D13 : FD l.prog w mg base (gR K [] [] nsX) "is_char" F_is_char 1 3 := fd_ok (g := (gR K [] [] nsX)) (ce := ce_is_char) (cf := cf_is_char) E13 (PySem.W.mg_of X G a13) b13 sc_is_char (by decide) rfl ck_is_char ⟨⟨1, by decide, D11⟩, ⟨2, by decide, D12⟩, trivial⟩ ⟨con_tup (PySem.W.mg_of X G v6) w6 x6 (by decide) rfl, trivial⟩ ⟨PySem.W.mg_none_of X G z5, PySem.W.mg_none_of X G z7, PySem.W.mg_none_of X G z2, trivial⟩
  have D14 : FD l.prog w mg base (gR K [] [] nsX) "sort_of" F_sort_of 1 1 := fd_ok (g := (gR K [] [] nsX)) (ce := ce_sort_of) (cf := cf_sort_of) E14 (PySem.W.mg_of X G a14) b14 sc_sort_of (by decide) rfl ck_sort_of trivial ⟨con_tup (PySem.W.mg_of X G v7) w7 x7 (by decide) rfl, con_tup (PySem.W.mg_of X G v8) w8 x8 (by decide) rfl, trivial⟩ ⟨PySem.W.mg_none_of X G z5, PySem.W.mg_none_of X G z6, trivial⟩
  have D15 : FD l.prog w mg base (gR K [] [] nsX) "is_token" F_is_token 1 4 := fd_ok (g := (gR K [] [] nsX)) (ce := ce_is_token) (cf := cf_is_token) E15 (PySem.W.mg_of X G a15) b15 sc_is_token (by decide) rfl ck_is_token ⟨⟨3, by decide, D13⟩, ⟨1, by decide, D14⟩, ⟨1, by decide, D10⟩, trivial⟩ trivial ⟨PySem.W.mg_none_of X G z5, PySem.W.mg_none_of X G z6, PySem.W.mg_none_of X G z2, PySem.W.mg_none_of X G z7, trivial⟩
  have K15_0 : FDK l.prog w mg base (gR K [] [] nsX) "is_token" F_is_token ["value"] 0 4 := fdk_ok (g := (gR K [] [] nsX)) (ce := ce_is_token) (cf := cf_is_token) E15 (PySem.W.mg_of X G a15) (kb_of E15 fun _ _ _ _ _ _ us ws h1 h2 => match us, ws, h1, h2 with | [], [_], _, _ => rfl) sc_is_token (by decide) rfl ck_is_token ⟨⟨3, by decide, D13⟩, ⟨1, by decide, D14⟩, ⟨1, by decide, D10⟩, trivial⟩ trivial ⟨PySem.W.mg_none_of X G z5, PySem.W.mg_none_of X G z6, PySem.W.mg_none_of X G z2, PySem.W.mg_none_of X G z7, trivial⟩
  exact def_ok (g := (gR K [] [] nsX)) (ce := ce_law) (cf := cf_law) E16 sc_law (by decide) rfl ck_law ⟨⟨1, by decide, D1⟩, ⟨2, by decide, D3⟩, ⟨3, by decide, D4⟩, ⟨4, by decide, D5⟩, ⟨4, by decide, D6⟩, ⟨1, by decide, D7⟩, ⟨2, by decide, D8⟩, ⟨3, by decide, D9⟩, ⟨1, by decide, D10⟩, ⟨2, by decide, D12⟩, ⟨4, by decide, D15⟩, trivial⟩ trivial ⟨PySem.W.mg_none_of X G z3, PySem.W.mg_none_of X G z11, PySem.W.mg_none_of X G z2, PySem.W.mg_none_of X G z12, trivial⟩ ⟨⟨1, by decide, K10_0⟩, ⟨2, by decide, K12_0⟩, ⟨4, by decide, K15_0⟩, trivial⟩
end
end K02
namespace K02
open Vd
local macro_rules
  | `(tactic| decreasing_trivial) => `(tactic| repeat ((first | refine w_nil ?_ | refine w_cons ?_ | refine w_set ?_ | refine w_par ?_ | refine w_unp ?_ | refine w_sub ?_ | refine w_exp ?_ | refine w_ret ?_ | refine w_ifs ?_ | refine w_pas ?_ | refine w_fors ?_ | refine w_dat rfl ?_ | refine w_own rfl ?_ | refine w_int ?_ | refine w_bl ?_ | refine w_non ?_ | refine w_str ?_ | (refine' w_con' ?hcon ?_; (case hcon => (conv => lhs; whnf))) | refine w_bin ?_ | refine w_cmp ?_ | refine w_neg ?_ | refine w_not ?_ | refine w_ite ?_ | refine w_and ?_ | refine w_or ?_ | refine w_chn ?_ | refine w_tup ?_ | refine w_lst ?_ | refine w_ix ?_ | refine w_rvl ?_ | refine w_sl ?_ | refine w_call ?_ | refine w_bi ?_ | refine w_mt ?_ | refine w_pm ?_ | refine w_isi ?_ | refine ws_nil ?_ | refine ws_cons ?_ | refine wo_none ?_ | refine wo_some ?_ | refine wt_and ?_ | refine wt_or ?_ | refine wt_not ?_ | refine wt_val rfl ?_ | refine w_its ?_ | refine w_mul rfl rfl (.inr (by decide)) ?_ | refine w_mod rfl rfl (by decide) ?_ | refine w_fdiv rfl rfl (by decide) ?_ | refine w_op2 rfl rfl rfl ?_ | refine w_op1 rfl rfl ?_ | refine w_bfn rfl rfl ?_ | refine w_setp rfl rfl ?_ | refine w_setf rfl rfl ?_ | refine w_bind_nm rfl rfl ?_ | refine w_bind_tp ?_ | refine w_bs_nil ?_ | refine w_bs_cons ?_ | refine c_nil ?_ | refine c_cons ?_ | refine c_cnt ?_ | refine c_brk ?_ | refine c_ifs ?_ | refine c_ex ?_ | refine w_sv_nil ?_ | refine w_sv_cons ?_ | refine w_retp ?_ | refine w_retf ?_ | refine w_reto rfl ?_ | refine w_fzs rfl (lenOk rfl) ?_ | refine w_fzVs rfl ?_ | refine w_fz rfl ?_ | refine w_it rfl rfl ?_); (try dsimp only [List.set_cons_zero, List.set_cons_succ, lockE, unlockE, vws, List.foldl])))
def letters : List Nat := [97, 98, 99, 100, 101, 102, 103, 104, 105, 106, 107, 108, 109, 110, 111, 112, 113, 114, 115, 116, 117, 118, 119, 120, 121, 122]
def digits : List Nat := [48, 49, 50, 51, 52, 53, 54, 55, 56, 57]
def txt (c : Nat) : Bool := decide (32 ≤ c ∧ c ≤ 126 ∧ c ≠ 37)
def idB (l : List Nat) : Bool := decide (1 ≤ l.length ∧ l.length ≤ 16) && (decide (l.headD 0 ∈ letters) && l.all fun c => decide (c ∈ letters) || decide (c ∈ digits))
theorem le_sg (a b : Nat) : cop .le (.str [a]) (.str [b]) = some (decide (a ≤ b)) := by
  show some (!decide ([b] < [a])) = _
  congr 1
  by_cases h : a ≤ b
  · have : ¬ [b] < [a] := by simp [List.cons_lt_cons_iff]; omega
    simp [h, this]
  · have : [b] < [a] := by simp [List.cons_lt_cons_iff]; omega
    simp [h, this]
theorem le_sg' (a b : Nat) : (!decide ([b] < [a])) = decide (a ≤ b) := by
  have := le_sg a b
  have e : cop .le (.str [a]) (.str [b]) = some (!decide ([b] < [a])) := rfl
  rw [e] at this
  exact Option.some.inj this
theorem text_ok (l : List Nat) (hl : l.length ≤ line) : F_is_text [.p (.str l)] = .ok (.p (.bl (l.all txt))) [.p (.str l)] := by
  refine run_eq ?_
  unfold b_is_text
  (simp only [List.map_cons, List.map_nil, List.length_cons, List.length_nil, List.cons_append, List.nil_append, List.replicate_succ, List.replicate_zero, Arg.ss, Nat.reduceAdd, Nat.reduceSub]); decreasing_trivial
  refine w_lcM l (fun c => .str [c]) (fun c => .bl (txt c)) ?_
  decreasing_trivial
  refine ⟨rfl, fun c _ => ?_, hl, ?_⟩
  · refine w_bind_nm rfl rfl ?_
    refine ⟨rfl, ?_⟩
    dsimp only [lockE, vws, List.foldl, wipeE, List.set_cons_zero, List.set_cons_succ]
    decreasing_trivial
    refine w_if (fun h => ?_) (fun h => ?_)
    · decreasing_trivial
      refine w_if (fun h2 => ?_) (fun h2 => ?_)
      · decreasing_trivial
        refine ⟨rfl, ?_⟩
        rw [le_sg', decide_eq_true_eq] at h h2
        show some (D.bl _) = some (D.bl _)
        congr 2
        by_cases h3 : c = 37
        · subst h3; rfl
        · have : ¬ (c : Int) = 37 := by omega
          simp [txt, h, h2, h3, this, deq]
      · refine ⟨rfl, ?_⟩
        rw [le_sg', decide_eq_false_iff_not] at h2
        show some (D.bl _) = some (D.bl _)
        simp [txt, h2]
    · decreasing_trivial
      refine ⟨rfl, ?_⟩
      rw [le_sg', decide_eq_false_iff_not] at h
      show some (D.bl _) = some (D.bl _)
      simp [txt, h]
  · decreasing_trivial
    refine w_bf rfl (show bfn .all [.lst (l.map fun c => .bl (txt c))] = some (.p (.bl (l.all txt))) by simp only [bfn, allB_map]; rfl) ?_
    decreasing_trivial
    exact ⟨rfl, rfl⟩
theorem item_str0 (a : Nat) (l : List Nat) : item (.str (a :: l)) (.int 0) = some (.str [a]) := by simp [item, ixn]
theorem id_ok (l : List Nat) (hl : l.length ≤ line) : F_is_id [.p (.str l)] = .ok (.p (.bl (idB l))) [.p (.str l)] := by
  refine run_eq ?_
  unfold b_is_id
  (simp only [List.map_cons, List.map_nil, List.length_cons, List.length_nil, List.cons_append, List.nil_append, List.replicate_succ, List.replicate_zero, Arg.ss, Nat.reduceAdd, Nat.reduceSub]); decreasing_trivial
  refine w_if (fun h => ?_) (fun h => ?_)
  · decreasing_trivial
    refine w_if (fun h2 => ?_) (fun h2 => ?_)
    · decreasing_trivial
      refine ⟨?_, rfl⟩
      have a2 : ¬ (1 ≤ l.length ∧ l.length ≤ 16) := by simp only [Bool.not_eq_true', decide_eq_false_iff_not] at h2; omega
      simp [idB, a2]
    · cases l with
      | nil => simp at h
      | cons a l =>
        decreasing_trivial
        refine w_ixD rfl rfl (item_str0 a l) ?_
        decreasing_trivial
        refine w_if (fun h3 => ?_) (fun h3 => ?_)
        · decreasing_trivial
          refine ⟨?_, rfl⟩
          have h3 : a ∉ letters := by
            have h4 : (!decide (a ∈ letters)) = true := h3
            simpa using h4
          simp [idB, h3]
        · decreasing_trivial
          refine w_lcM (a :: l) (fun c => .str [c]) (fun c => .bl (decide (c ∈ letters) || decide (c ∈ digits))) ?_
          decreasing_trivial
          refine ⟨rfl, fun x hx => ?_, hl, ?_⟩
          · refine w_bind_nm rfl rfl ?_
            refine ⟨rfl, ?_⟩
            dsimp only [lockE, vws, List.foldl, wipeE, List.set_cons_zero, List.set_cons_succ]
            decreasing_trivial
            refine w_if (fun h4 => ?_) (fun h4 => ?_)
            · refine ⟨rfl, ?_⟩
              have h4 : x ∈ letters := of_decide_eq_true h4
              show some (D.bl _) = some (D.bl _)
              simp [h4]
            · decreasing_trivial
              refine ⟨rfl, ?_⟩
              have h4 : x ∉ letters := of_decide_eq_false h4
              show some (D.bl _) = some (D.bl _)
              simp only [h4, decide_false, Bool.false_or]
              rfl
          · decreasing_trivial
            refine w_bf rfl (show bfn .all [.lst ((a :: l).map fun c => .bl (decide (c ∈ letters) || decide (c ∈ digits)))] = some (.p (.bl ((a :: l).all fun c => decide (c ∈ letters) || decide (c ∈ digits)))) by simp only [bfn, allB_map]; rfl) ?_
            decreasing_trivial
            refine ⟨?_, rfl⟩
            have h3 : a ∈ letters := by
              have h4 : (!decide (a ∈ letters)) = false := h3
              simpa using h4
            have a1 : 1 ≤ (a :: l).length ∧ (a :: l).length ≤ 16 := by
              have := of_decide_eq_true h; simp only [Bool.not_eq_false', decide_eq_true_eq] at h2; omega
            simp only [idB, a1, decide_true, Bool.true_and, List.headD_cons, h3, and_self]
  · decreasing_trivial
    refine ⟨?_, rfl⟩
    have a2 : ¬ (1 ≤ l.length ∧ l.length ≤ 16) := by have := of_decide_eq_false h; omega
    simp [idB, a2]
theorem part_ok (a b : List Nat) (h : 35 ∉ a) (hl : a.length + b.length < line) : pfn .partition (.str (a ++ 35 :: b)) [.str [35]] = some (.p (.tup [.str a, .str [35], .str b])) := by
  have e : PySem.Txt.partition (sT (a ++ 35 :: b)) (sT [35]) = (sT a, sT [35], sT b) := by
    have e1 : sT (a ++ 35 :: b) = sT a ++ sT [35] ++ sT b := by rw [sT_app, sT_app]; simp
    rw [e1]
    exact TL.partition_app (y := sT [35]) (a := sT a) (b := sT b) (s := 35) (S := []) rfl (by show 35 ∉ a; exact h)
  show (if ([35] : List Nat).isEmpty = false then (strV (PySem.Txt.partition (sT (a ++ 35 :: b)) (sT [35])).1).bind fun x => (strV (PySem.Txt.partition (sT (a ++ 35 :: b)) (sT [35])).2.1).bind fun y => (strV (PySem.Txt.partition (sT (a ++ 35 :: b)) (sT [35])).2.2).bind fun z => some (Val.p (D.tup [x, y, z])) else none) = _
  rw [if_pos (show ([35] : List Nat).isEmpty = false from rfl), e]
  show (strV (sT a)).bind _ = _
  rw [strV_sT (by omega), Option.bind_some]
  show (strV (sT [35])).bind _ = _
  rw [strV_sT (by decide), Option.bind_some]
  show (strV (sT b)).bind _ = _
  rw [strV_sT (by omega), Option.bind_some]
theorem part_none (a : List Nat) (h : 35 ∉ a) (hl : a.length ≤ line) : pfn .partition (.str a) [.str [35]] = some (.p (.tup [.str a, .str [], .str []])) := by
  have e : PySem.Txt.partition (sT a) (sT [35]) = (sT a, sT [], sT []) := TL.partition_none (y := sT [35]) (a := sT a) (s := 35) (S := []) rfl (by show 35 ∉ a; exact h)
  show (if ([35] : List Nat).isEmpty = false then (strV (PySem.Txt.partition (sT a) (sT [35])).1).bind fun x => (strV (PySem.Txt.partition (sT a) (sT [35])).2.1).bind fun y => (strV (PySem.Txt.partition (sT a) (sT [35])).2.2).bind fun z => some (Val.p (D.tup [x, y, z])) else none) = _
  rw [if_pos (show ([35] : List Nat).isEmpty = false from rfl), e]
  show (strV (sT a)).bind _ = _
  rw [strV_sT hl, Option.bind_some]
  rfl
/-- a link or nothing -/
def LkD (k : D) : Prop := k = .non ∨ ∃ l : List Nat, k = .str l ∧ l.length ≤ 60 ∧ F_is_link [.p (.str l)] = .ok (.p (.bl true)) [.p (.str l)]
theorem id_no35 {a : List Nat} (h : idB a = true) : 35 ∉ a := by
  simp only [idB, Bool.and_eq_true, decide_eq_true_eq, List.all_eq_true, Bool.or_eq_true] at h
  intro hm
  have := h.2.2 35 hm
  revert this; decide
theorem starts_eq (a b : List Nat) : PySem.Txt.startswith (sT a) (sT b) = (decide (b.length ≤ a.length) && (a.take b.length == b)) := by
  unfold PySem.Txt.startswith
  rw [PySem.StrLaws.subAt_eq]
  rw [show (sT a).length = a.length from len_sT a, show (sT b).length = b.length from len_sT b, Nat.zero_add]
  rfl
def stys : List (List (List Nat)) := [[], [[115, 116, 114, 111, 110, 103]], [[115, 108, 97, 110, 116]], [[99, 111, 100, 101]], [[99, 111, 100, 101], [115, 116, 114, 111, 110, 103]], [[115, 108, 97, 110, 116], [115, 116, 114, 111, 110, 103]], [[99, 111, 100, 101], [115, 108, 97, 110, 116], [115, 116, 114, 111, 110, 103]]]
def sty3 : List (List Nat) := [[99, 111, 100, 101], [115, 108, 97, 110, 116], [115, 116, 114, 111, 110, 103]]
theorem inDS (n : List Nat) (ns : List (List Nat)) : inD (.str n) (ns.map .str) = decide (n ∈ ns) := any_strs n ns
theorem in_tupS (n : List Nat) (ns : List (List Nat)) : cop .isin (.str n) (.tup (ns.map .str)) = some (decide (n ∈ ns)) := by
  have h1 : inOk (.str n) (ns.map .str) = true := by simp [inOk, plain, plains_strs, dep]
  have : cop .isin (.str n) (.tup (ns.map .str)) = if inOk (.str n) (ns.map .str) then some (inD (.str n) (ns.map .str)) else none := rfl
  rw [this, h1]
  simp only [inD, any_strs, if_true]
def kopen : List Nat := [111, 112, 101, 110]
def kclose : List Nat := [99, 108, 111, 115, 101]
def kitem : List Nat := [105, 116, 101, 109]
def klist : List Nat := [108, 105, 115, 116]
def ksect : List Nat := [115, 101, 99, 116, 105, 111, 110]
def kquote : List Nat := [113, 117, 111, 116, 101]
def kpara : List Nat := [112, 97, 114, 97]
def kh1 : List Nat := [104, 101, 97, 100, 49]
def kh2 : List Nat := [104, 101, 97, 100, 50]
def kh3 : List Nat := [104, 101, 97, 100, 51]
def kanch : List Nat := [97, 110, 99, 104, 111, 114]
def kimag : List Nat := [105, 109, 97, 103, 101]
def kchar : List Nat := [99, 104, 97, 114]
def lineK : List (List Nat) := [kh1, kh2, kh3, kpara]
def boxK : List (List Nat) := [ksect, kquote, klist, kitem]
def kinds8 : List (List Nat) := boxK ++ lineK
theorem sort_ok (k : List Nat) : F_sort_of [.p (.str k)] = .ok (.p (if k ∈ boxK then .str [98, 111, 120] else if k ∈ lineK then .str [108, 105, 110, 101] else .non)) [.p (.str k)] := by
  refine run_eq ?_
  unfold b_sort_of
  (simp only [List.map_cons, List.map_nil, List.length_cons, List.length_nil, List.cons_append, List.nil_append, List.replicate_succ, List.replicate_zero, Arg.ss, Nat.reduceAdd, Nat.reduceSub]); decreasing_trivial
  refine w_if (fun h => ?_) (fun h => ?_)
  · decreasing_trivial
    have h := of_decide_eq_true ((inDS k boxK).symm.trans h)
    exact ⟨by rw [if_pos h], rfl⟩
  · decreasing_trivial
    have h := of_decide_eq_false ((inDS k boxK).symm.trans h)
    refine w_if (fun h2 => ?_) (fun h2 => ?_)
    · decreasing_trivial
      have h2 := of_decide_eq_true ((inDS k lineK).symm.trans h2)
      exact ⟨by rw [if_neg h, if_pos h2], rfl⟩
    · decreasing_trivial
      have h2 := of_decide_eq_false ((inDS k lineK).symm.trans h2)
      exact ⟨by rw [if_neg h, if_neg h2], rfl⟩
def tokB (b : Bool) (d : D) : Prop := F_is_token [.p d] = .ok (.p (.bl b)) [.p d]
end K02
namespace K02
open Vd
local macro_rules
  | `(tactic| decreasing_trivial) => `(tactic| repeat ((first | refine w_nil ?_ | refine w_cons ?_ | refine w_set ?_ | refine w_par ?_ | refine w_unp ?_ | refine w_sub ?_ | refine w_exp ?_ | refine w_ret ?_ | refine w_ifs ?_ | refine w_pas ?_ | refine w_fors ?_ | refine w_dat rfl ?_ | refine w_own rfl ?_ | refine w_int ?_ | refine w_bl ?_ | refine w_non ?_ | refine w_str ?_ | (refine' w_con' ?hcon ?_; (case hcon => (conv => lhs; whnf))) | refine w_bin ?_ | refine w_cmp ?_ | refine w_neg ?_ | refine w_not ?_ | refine w_ite ?_ | refine w_and ?_ | refine w_or ?_ | refine w_chn ?_ | refine w_tup ?_ | refine w_lst ?_ | refine w_ix ?_ | refine w_rvl ?_ | refine w_sl ?_ | refine w_call ?_ | refine w_bi ?_ | refine w_mt ?_ | refine w_pm ?_ | refine w_isi ?_ | refine ws_nil ?_ | refine ws_cons ?_ | refine wo_none ?_ | refine wo_some ?_ | refine wt_and ?_ | refine wt_or ?_ | refine wt_not ?_ | refine wt_val rfl ?_ | refine w_its ?_ | refine w_mul rfl rfl (.inr (by decide)) ?_ | refine w_mod rfl rfl (by decide) ?_ | refine w_fdiv rfl rfl (by decide) ?_ | refine w_op2 rfl rfl rfl ?_ | refine w_op1 rfl rfl ?_ | refine w_bfn rfl rfl ?_ | refine w_setp rfl rfl ?_ | refine w_setf rfl rfl ?_ | refine w_bind_nm rfl rfl ?_ | refine w_bind_tp ?_ | refine w_bs_nil ?_ | refine w_bs_cons ?_ | refine c_nil ?_ | refine c_cons ?_ | refine c_cnt ?_ | refine c_brk ?_ | refine c_ifs ?_ | refine c_ex ?_ | refine w_sv_nil ?_ | refine w_sv_cons ?_ | refine w_retp ?_ | refine w_retf ?_ | refine w_reto rfl ?_ | refine w_fzs rfl (lenOk rfl) ?_ | refine w_fzVs rfl ?_ | refine w_fz rfl ?_ | refine w_it rfl rfl ?_); (try dsimp only [List.set_cons_zero, List.set_cons_succ, lockE, unlockE, vws, List.foldl])))
def az (c : Nat) : Bool := decide (97 ≤ c) && decide (c ≤ 122)
def d09 (c : Nat) : Bool := decide (48 ≤ c) && decide (c ≤ 57)
theorem az_mem (c : Nat) : decide (c ∈ letters) = az c := by
  unfold az letters
  rw [Bool.eq_iff_iff]
  simp only [decide_eq_true_eq, Bool.and_eq_true, List.mem_cons, List.not_mem_nil, or_false]
  omega
theorem d09_mem (c : Nat) : decide (c ∈ digits) = d09 c := by
  unfold d09 digits
  rw [Bool.eq_iff_iff]
  simp only [decide_eq_true_eq, Bool.and_eq_true, List.mem_cons, List.not_mem_nil, or_false]
  omega
/-- no text, nor an object of a class -/
def nonS : D → Bool
  | .str _ => false
  | .ins _ _ => false
  | .exc _ _ => false
  | .th _ => false
  | _ => true
theorem id_no (d : D) (h : nonS d = true) : F_is_id [.p d] = .ok (.p (.bl false)) [.p d] := by
  refine run_eq ?_
  unfold b_is_id
  (simp only [List.map_cons, List.map_nil, List.length_cons, List.length_nil, List.cons_append, List.nil_append, List.replicate_succ, List.replicate_zero, Arg.ss, Nat.reduceAdd, Nat.reduceSub])
  cases d <;> first | (cases h; done) | (decreasing_trivial; exact ⟨rfl, rfl⟩)
theorem lid_no (d : D) (h : nonS d = true) : F_law_is_id [.p d] = .ok (.p (.bl false)) [.p d] := by
  refine run_eq ?_
  unfold b_law_is_id
  (simp only [List.map_cons, List.map_nil, List.length_cons, List.length_nil, List.cons_append, List.nil_append, List.replicate_succ, List.replicate_zero, Arg.ss, Nat.reduceAdd, Nat.reduceSub])
  cases d <;> first | (cases h; done) | (decreasing_trivial; exact ⟨rfl, rfl⟩)
theorem link_no (d : D) (h : nonS d = true) : F_is_link [.p d] = .ok (.p (.bl false)) [.p d] := by
  refine run_eq ?_
  unfold b_is_link
  (simp only [List.map_cons, List.map_nil, List.length_cons, List.length_nil, List.cons_append, List.nil_append, List.replicate_succ, List.replicate_zero, Arg.ss, Nat.reduceAdd, Nat.reduceSub])
  cases d <;> first | (cases h; done) | (decreasing_trivial; exact ⟨rfl, rfl⟩)
theorem llink_no (d : D) (h : nonS d = true) : F_law_is_link [.p d] = .ok (.p (.bl false)) [.p d] := by
  refine run_eq ?_
  unfold b_law_is_link
  (simp only [List.map_cons, List.map_nil, List.length_cons, List.length_nil, List.cons_append, List.nil_append, List.replicate_succ, List.replicate_zero, Arg.ss, Nat.reduceAdd, Nat.reduceSub])
  cases d <;> first | (cases h; done) | (decreasing_trivial; exact ⟨rfl, rfl⟩)
def nonT : D → Bool
  | .tup _ => false
  | .ins _ _ => false
  | .exc _ _ => false
  | .th _ => false
  | _ => true
theorem tok_no (d : D) (h : nonT d = true) : F_is_token [.p d] = .ok (.p (.bl false)) [.p d] := by
  refine run_eq ?_
  unfold b_is_token
  (simp only [List.map_cons, List.map_nil, List.length_cons, List.length_nil, List.cons_append, List.nil_append, List.replicate_succ, List.replicate_zero, Arg.ss, Nat.reduceAdd, Nat.reduceSub])
  cases d <;> first | (cases h; done) | (decreasing_trivial; exact ⟨rfl, rfl⟩)
theorem ltok_no (d : D) (h : nonT d = true) : F_law_is_token [.p d] = .ok (.p (.bl false)) [.p d] := by
  refine run_eq ?_
  unfold b_law_is_token
  (simp only [List.map_cons, List.map_nil, List.length_cons, List.length_nil, List.cons_append, List.nil_append, List.replicate_succ, List.replicate_zero, Arg.ss, Nat.reduceAdd, Nat.reduceSub])
  cases d <;> first | (cases h; done) | (decreasing_trivial; exact ⟨rfl, rfl⟩)
theorem plains_sg : ∀ xs : List Nat, plains (xs.map fun c => D.str [c]) = true
  | [] => rfl
  | x :: xs => by simp [plains, plain, plains_sg xs]
theorem eq_nilF (xs : List Nat) : cop .eq (.lst (xs.map fun c => D.str [c])) (.lst []) = some (decide (xs = [])) := by
  cases xs with
  | nil => rfl
  | cons x xs =>
    have h : plain (.lst ((x :: xs).map fun c => D.str [c])) = true := plains_sg (x :: xs)
    have h2 : eqOk (.lst ((x :: xs).map fun c => D.str [c])) (.lst []) = true := by
      unfold eqOk
      rw [h]
      simp [plain, plains, dep, deps]
    simp only [cop, h2, if_true]
    simp [deq, deqs]
theorem fil_nil (p : Nat → Bool) (xs : List Nat) : decide (xs.filter (fun c => !p c) = []) = xs.all p := by
  rw [Bool.eq_iff_iff]
  simp [List.filter_eq_nil_iff]
theorem idaz (a : Nat) (l : List Nat) : idB (a :: l) = (decide (1 ≤ (a :: l).length ∧ (a :: l).length ≤ 16) && (az a && (a :: l).all fun c => az c || d09 c)) := by
  have e : ∀ c, (decide (c ∈ letters) || decide (c ∈ digits)) = (az c || d09 c) := fun c => by rw [az_mem, d09_mem]
  unfold idB
  rw [show (a :: l).headD 0 = a from rfl, az_mem a, show (fun c => decide (c ∈ letters) || decide (c ∈ digits)) = fun c => az c || d09 c from funext e]
theorem lid_ok (l : List Nat) (hl : l.length ≤ line) : F_law_is_id [.p (.str l)] = .ok (.p (.bl (idB l))) [.p (.str l)] := by
  refine run_eq ?_
  unfold b_law_is_id
  (simp only [List.map_cons, List.map_nil, List.length_cons, List.length_nil, List.cons_append, List.nil_append, List.replicate_succ, List.replicate_zero, Arg.ss, Nat.reduceAdd, Nat.reduceSub]); decreasing_trivial
  have no : ∀ h : ¬ (1 ≤ l.length ∧ l.length ≤ 16), idB l = false := fun h => by simp [idB, h]
  refine w_if (fun h => ?_) (fun h => ?_)
  · decreasing_trivial
    refine w_if (fun h2 => ?_) (fun h2 => ?_)
    · decreasing_trivial
      refine ⟨?_, rfl⟩
      rw [no (by simp only [Bool.not_eq_true', decide_eq_false_iff_not] at h2; omega)]
    · cases l with
      | nil => simp at h
      | cons a l =>
        decreasing_trivial
        refine w_ixD rfl rfl (item_str0 a l) ?_
        refine w_cmpD rfl rfl (le_sg 97 a) ?_
        refine w_if (fun h3 => ?_) (fun h3 => ?_)
        · decreasing_trivial
          rw [le_sg']
          refine w_if (fun h4 => ?_) (fun h4 => ?_)
          · decreasing_trivial
            refine ⟨?_, rfl⟩
            have : az a = false := by
              unfold az; simp only [Bool.not_eq_true', decide_eq_false_iff_not] at h4; simp [h4]
            rw [idaz, this]; simp
          · decreasing_trivial
            refine w_lcF (a :: l) (fun c => .str [c]) (fun c => !(az c || d09 c)) (fun c => .str [c]) ?_
            decreasing_trivial
            refine ⟨rfl, fun x hx => ?_, hl, ?_⟩
            · refine w_bind_nm rfl rfl ?_
              refine ⟨rfl, ?_⟩
              dsimp only [lockE, vws, List.foldl, wipeE, List.set_cons_zero, List.set_cons_succ]
              rw [evc]
              decreasing_trivial
              rw [le_sg']
              refine w_if (fun k1 => ?_) (fun k1 => ?_)
              · decreasing_trivial
                rw [le_sg']
                refine w_if (fun k2 => ?_) (fun k2 => ?_)
                · have ax : az x = true := by unfold az; rw [k1, k2]; rfl
                  refine ⟨rfl, by rw [ax]; rfl, fun z => ?_⟩
                  decreasing_trivial
                  exact ⟨rfl, rfl⟩
                · have ax : az x = false := by unfold az; rw [k2, Bool.and_false]
                  decreasing_trivial
                  rw [le_sg']
                  refine w_if (fun k3 => ?_) (fun k3 => ?_)
                  · decreasing_trivial
                    rw [le_sg']
                    refine ⟨rfl, ?_, fun z => ?_⟩
                    · rw [ax, Bool.false_or]
                      unfold d09
                      rw [k3, Bool.true_and]
                    · decreasing_trivial
                      exact ⟨rfl, rfl⟩
                  · decreasing_trivial
                    refine ⟨rfl, ?_, fun z => ?_⟩
                    · rw [ax, Bool.false_or]
                      unfold d09
                      rw [k3, Bool.false_and]
                    · decreasing_trivial
                      exact ⟨rfl, rfl⟩
              · decreasing_trivial
                have ax : az x = false := by unfold az; rw [k1, Bool.false_and]
                decreasing_trivial
                rw [le_sg']
                refine w_if (fun k3 => ?_) (fun k3 => ?_)
                · decreasing_trivial
                  rw [le_sg']
                  refine ⟨rfl, ?_, fun z => ?_⟩
                  · rw [ax, Bool.false_or]
                    unfold d09
                    rw [k3, Bool.true_and]
                  · decreasing_trivial
                    exact ⟨rfl, rfl⟩
                · decreasing_trivial
                  refine ⟨rfl, ?_, fun z => ?_⟩
                  · rw [ax, Bool.false_or]
                    unfold d09
                    rw [k3, Bool.false_and]
                  · decreasing_trivial
                    exact ⟨rfl, rfl⟩
            · decreasing_trivial
              refine w_cmpD rfl rfl (eq_nilF _) ?_
              decreasing_trivial
              refine ⟨?_, rfl⟩
              have q1 : az a = true := by
                unfold az
                rw [h3, Bool.true_and]
                simpa using h4
              have q2 : 1 ≤ (a :: l).length ∧ (a :: l).length ≤ 16 := by
                have := of_decide_eq_true h
                simp only [Bool.not_eq_false', decide_eq_true_eq] at h2
                omega
              rw [idaz, q1, decide_eq_true q2, Bool.true_and, Bool.true_and, fil_nil]
        · decreasing_trivial
          refine ⟨?_, rfl⟩
          have : az a = false := by
            have := of_decide_eq_false h3
            unfold az; simp [this]
          rw [idaz, this]; simp
  · decreasing_trivial
    refine ⟨?_, rfl⟩
    rw [no (by have := of_decide_eq_false h; omega)]
end K02
namespace K02
open Vd
local macro_rules
  | `(tactic| decreasing_trivial) => `(tactic| repeat ((first | refine w_nil ?_ | refine w_cons ?_ | refine w_set ?_ | refine w_par ?_ | refine w_unp ?_ | refine w_sub ?_ | refine w_exp ?_ | refine w_ret ?_ | refine w_ifs ?_ | refine w_pas ?_ | refine w_fors ?_ | refine w_dat rfl ?_ | refine w_own rfl ?_ | refine w_int ?_ | refine w_bl ?_ | refine w_non ?_ | refine w_str ?_ | (refine' w_con' ?hcon ?_; (case hcon => (conv => lhs; whnf))) | refine w_bin ?_ | refine w_cmp ?_ | refine w_neg ?_ | refine w_not ?_ | refine w_ite ?_ | refine w_and ?_ | refine w_or ?_ | refine w_chn ?_ | refine w_tup ?_ | refine w_lst ?_ | refine w_ix ?_ | refine w_rvl ?_ | refine w_sl ?_ | refine w_call ?_ | refine w_bi ?_ | refine w_mt ?_ | refine w_pm ?_ | refine w_isi ?_ | refine ws_nil ?_ | refine ws_cons ?_ | refine wo_none ?_ | refine wo_some ?_ | refine wt_and ?_ | refine wt_or ?_ | refine wt_not ?_ | refine wt_val rfl ?_ | refine w_its ?_ | refine w_mul rfl rfl (.inr (by decide)) ?_ | refine w_mod rfl rfl (by decide) ?_ | refine w_fdiv rfl rfl (by decide) ?_ | refine w_op2 rfl rfl rfl ?_ | refine w_op1 rfl rfl ?_ | refine w_bfn rfl rfl ?_ | refine w_setp rfl rfl ?_ | refine w_setf rfl rfl ?_ | refine w_bind_nm rfl rfl ?_ | refine w_bind_tp ?_ | refine w_bs_nil ?_ | refine w_bs_cons ?_ | refine c_nil ?_ | refine c_cons ?_ | refine c_cnt ?_ | refine c_brk ?_ | refine c_ifs ?_ | refine c_ex ?_ | refine w_sv_nil ?_ | refine w_sv_cons ?_ | refine w_retp ?_ | refine w_retf ?_ | refine w_reto rfl ?_ | refine w_fzs rfl (lenOk rfl) ?_ | refine w_fzVs rfl ?_ | refine w_fz rfl ?_ | refine w_it rfl rfl ?_); (try dsimp only [List.set_cons_zero, List.set_cons_succ, lockE, unlockE, vws, List.foldl])))
def kout : List Nat := [111, 117, 116, 58]
def odd3 (c : Nat) : Bool := decide (c = 60) || decide (c = 62) || decide (c = 38)
def outc (c : Nat) : Bool := decide (33 ≤ c) && decide (c ≤ 126) && !odd3 c
def outB (r : List Nat) : Bool := decide (1 ≤ r.length ∧ r.length ≤ 20) && r.all outc
theorem drop_out (r : List Nat) : cut (kout ++ r) (some 4) none = r := by
  exact (cut_lo (i := 4) (a := 4) _ rfl).trans rfl
theorem starts_out (r : List Nat) : pfn .startswith (.str (kout ++ r)) [.str [111, 117, 116, 58]] = some (.p (.bl true)) := by
  show some (Val.p (D.bl (PySem.Txt.startswith (sT (kout ++ r)) (sT [111, 117, 116, 58])))) = _
  rw [starts_eq]
  simp [kout]
theorem out_all {r : List Nat} (h : 37 ∉ r) : (r.all txt && !(r.any fun c => decide (c = 32) || odd3 c)) = r.all outc := by
  induction r with
  | nil => rfl
  | cons c r ih =>
    have ih := ih (fun z => h (List.mem_cons_of_mem _ z))
    have hc : c ≠ 37 := fun z => h (by rw [z]; exact List.mem_cons_self)
    have e : (txt c && !(decide (c = 32) || odd3 c)) = outc c := by
      unfold outc
      cases q : odd3 c with
      | true => simp
      | false =>
        simp only [Bool.or_false, Bool.not_false, Bool.and_true]
        unfold txt
        rw [Bool.eq_iff_iff]
        simp only [Bool.and_eq_true, Bool.not_eq_true', decide_eq_true_eq, decide_eq_false_iff_not]
        omega
    rw [List.all_cons, List.any_cons, List.all_cons, ← ih, ← e]
    cases txt c <;> cases (decide (c = 32) || odd3 c) <;> simp
theorem outB_no {r : List Nat} (h : ¬ (1 ≤ r.length ∧ r.length ≤ 20)) : outB r = false := by
  unfold outB; rw [decide_eq_false h, Bool.false_and]
theorem link_out' (r : List Nat) (hl : r.length ≤ 200) (h : 37 ∉ r) : F_is_link [.p (.str (kout ++ r))] = .ok (.p (.bl (outB r))) [.p (.str (kout ++ r))] := by
  refine run_eq ?_
  unfold b_is_link
  (simp only [List.map_cons, List.map_nil, List.length_cons, List.length_nil, List.cons_append, List.nil_append, List.replicate_succ, List.replicate_zero, Arg.ss, Nat.reduceAdd, Nat.reduceSub]); decreasing_trivial
  refine w_pf rfl rfl (starts_out r) ?_
  decreasing_trivial
  rw [drop_out]
  refine w_if (fun h1 => ?_) (fun h1 => ?_)
  · decreasing_trivial
    refine w_if (fun h2 => ?_) (fun h2 => ?_)
    · decreasing_trivial
      have hr : 1 ≤ r.length ∧ r.length ≤ 20 := by
        have := of_decide_eq_true h1
        have := of_decide_eq_true h2
        omega
      refine w_callP rfl rfl (text_ok r (by unfold line; omega)) ?_
      have e : outB r = (r.all txt && !(r.any fun c => decide (c = 32) || odd3 c)) := by
        unfold outB
        rw [decide_eq_true hr, Bool.true_and, out_all h]
      decreasing_trivial
      refine w_if (fun h3 => ?_) (fun h3 => ?_)
      · decreasing_trivial
        refine w_lcM r (fun c => .str [c]) (fun c => .bl (decide (c = 32) || odd3 c)) ?_
        decreasing_trivial
        refine ⟨rfl, fun x hx => ?_, by unfold line; omega, ?_⟩
        · refine w_bind_nm rfl rfl ?_
          refine ⟨rfl, ?_⟩
          dsimp only [lockE, vws, List.foldl, wipeE, List.set_cons_zero, List.set_cons_succ]
          decreasing_trivial
          refine ⟨rfl, ?_⟩
          show some (D.bl (decide (x ∈ [32, 60, 62, 38]))) = _
          congr 2
          unfold odd3
          rw [Bool.eq_iff_iff]
          simp
          omega
        · decreasing_trivial
          refine w_bf rfl (show bfn .any [.lst (r.map fun c => .bl (decide (c = 32) || odd3 c))] = some (.p (.bl (r.any fun c => decide (c = 32) || odd3 c))) by simp only [bfn, anyB_map]; rfl) ?_
          decreasing_trivial
          refine ⟨?_, rfl⟩
          rw [e, h3, Bool.true_and]
      · decreasing_trivial
        refine ⟨?_, rfl⟩
        rw [e, h3, Bool.false_and]
    · decreasing_trivial
      refine ⟨?_, rfl⟩
      rw [outB_no (fun z => of_decide_eq_false h2 (by omega))]
  · decreasing_trivial
    refine ⟨?_, rfl⟩
    rw [outB_no (fun z => of_decide_eq_false h1 (by omega))]
theorem llink_out' (r : List Nat) (hl : r.length ≤ 200) : F_law_is_link [.p (.str (kout ++ r))] = .ok (.p (.bl (outB r))) [.p (.str (kout ++ r))] := by
  refine run_eq ?_
  unfold b_law_is_link
  (simp only [List.map_cons, List.map_nil, List.length_cons, List.length_nil, List.cons_append, List.nil_append, List.replicate_succ, List.replicate_zero, Arg.ss, Nat.reduceAdd, Nat.reduceSub]); decreasing_trivial
  rw [drop_out]
  refine w_if (fun h1 => ?_) (fun h1 => ?_)
  · decreasing_trivial
    refine w_if (fun h2 => ?_) (fun h2 => ?_)
    · decreasing_trivial
      have hr : 1 ≤ r.length ∧ r.length ≤ 20 := by
        have := of_decide_eq_true h1
        have := of_decide_eq_true h2
        omega
      refine w_lcF r (fun c => .str [c]) (fun c => !outc c) (fun c => .str [c]) ?_
      decreasing_trivial
      refine ⟨rfl, fun x hx => ?_, by unfold line; omega, ?_⟩
      · refine w_bind_nm rfl rfl ?_
        refine ⟨rfl, ?_⟩
        dsimp only [lockE, vws, List.foldl, wipeE, List.set_cons_zero, List.set_cons_succ]
        rw [evc]
        have isin : cop .isin (.str [x]) (.str [60, 62, 38]) = some (odd3 x) := by
          show some (decide (x ∈ [60, 62, 38])) = _
          congr 1
          unfold odd3
          rw [Bool.eq_iff_iff]
          simp
          omega
        decreasing_trivial
        rw [le_sg']
        refine w_if (fun k1 => ?_) (fun k1 => ?_)
        · decreasing_trivial
          rw [le_sg']
          refine w_if (fun k2 => ?_) (fun k2 => ?_)
          · have k2 : decide (x ≤ 126) = false := by simpa using k2
            refine ⟨rfl, by unfold outc; rw [k2, Bool.and_false, Bool.false_and]; rfl, fun z => ?_⟩
            decreasing_trivial
            exact ⟨rfl, rfl⟩
          · have k2 : decide (x ≤ 126) = true := by simpa using k2
            decreasing_trivial
            refine ⟨rfl, ?_, fun z => ?_⟩
            · show decide (x ∈ [60, 62, 38]) = _
              have : decide (x ∈ [60, 62, 38]) = odd3 x := Option.some.inj isin
              rw [this]
              unfold outc
              rw [k1, k2]
              simp
            · decreasing_trivial
              exact ⟨rfl, rfl⟩
        · decreasing_trivial
          refine ⟨rfl, by unfold outc; rw [k1, Bool.false_and, Bool.false_and]; rfl, fun z => ?_⟩
          decreasing_trivial
          exact ⟨rfl, rfl⟩
      · decreasing_trivial
        refine w_cmpD rfl rfl (eq_nilF _) ?_
        decreasing_trivial
        refine ⟨?_, rfl⟩
        rw [fil_nil]
        unfold outB
        rw [decide_eq_true hr, Bool.true_and]
    · decreasing_trivial
      refine ⟨?_, rfl⟩
      rw [outB_no (fun z => of_decide_eq_false h2 (by omega))]
  · decreasing_trivial
    refine ⟨?_, rfl⟩
    rw [outB_no (fun z => of_decide_eq_false h1 (by omega))]
/-! ### links that do not begin with out: -/
theorem starts_not {l : List Nat} (h : l.take 4 ≠ kout) : pfn .startswith (.str l) [.str [111, 117, 116, 58]] = some (.p (.bl false)) := by
  show some (Val.p (D.bl (PySem.Txt.startswith (sT l) (sT [111, 117, 116, 58])))) = _
  rw [starts_eq]
  have : (l.take 4 == kout) = false := by rw [beq_eq_false_iff_ne]; exact h
  show some (Val.p (D.bl (_ && (l.take 4 == kout)))) = _
  rw [this, Bool.and_false]
def pB (l : List Nat) : Bool := idB (l.takeWhile (· != 35)) && idB ((l.dropWhile (· != 35)).drop 1)
theorem id_35 (b : List Nat) (h : 35 ∈ b) : idB b = false := by
  cases q : idB b with
  | false => rfl
  | true => exact absurd h (id_no35 q)
theorem link_mid {a b : List Nat} (ha : 35 ∉ a) (hl : a.length + b.length ≤ 200) (h : (a ++ 35 :: b).take 4 ≠ kout) : F_is_link [.p (.str (a ++ 35 :: b))] = .ok (.p (.bl (idB a && idB b))) [.p (.str (a ++ 35 :: b))] := by
  refine run_eq ?_
  unfold b_is_link
  (simp only [List.map_cons, List.map_nil, List.length_cons, List.length_nil, List.cons_append, List.nil_append, List.replicate_succ, List.replicate_zero, Arg.ss, Nat.reduceAdd, Nat.reduceSub]); decreasing_trivial
  refine w_pf rfl rfl (starts_not h) ?_
  decreasing_trivial
  refine w_pf rfl rfl (part_ok a b ha (by unfold line; omega)) ?_
  decreasing_trivial
  refine w_callP rfl rfl (id_ok a (by unfold line; omega)) ?_
  cases q : idB a with
  | true =>
    decreasing_trivial
    refine w_callP rfl rfl (id_ok b (by unfold line; omega)) ?_
    decreasing_trivial
    exact ⟨rfl, rfl⟩
  | false =>
    decreasing_trivial
    exact ⟨rfl, rfl⟩
theorem link_none {l : List Nat} (h35 : 35 ∉ l) (hl : l.length ≤ 200) (h : l.take 4 ≠ kout) : F_is_link [.p (.str l)] = .ok (.p (.bl false)) [.p (.str l)] := by
  refine run_eq ?_
  unfold b_is_link
  (simp only [List.map_cons, List.map_nil, List.length_cons, List.length_nil, List.cons_append, List.nil_append, List.replicate_succ, List.replicate_zero, Arg.ss, Nat.reduceAdd, Nat.reduceSub]); decreasing_trivial
  refine w_pf rfl rfl (starts_not h) ?_
  decreasing_trivial
  refine w_pf rfl rfl (part_none l h35 (by unfold line; omega)) ?_
  decreasing_trivial
  refine w_callP rfl rfl (id_ok l (by unfold line; omega)) ?_
  cases q : idB l with
  | true =>
    decreasing_trivial
    refine w_callP rfl rfl (id_ok [] (by unfold line; simp)) ?_
    decreasing_trivial
    exact ⟨rfl, rfl⟩
  | false =>
    decreasing_trivial
    exact ⟨rfl, rfl⟩
end K02
namespace K02
open Vd
local macro_rules
  | `(tactic| decreasing_trivial) => `(tactic| repeat ((first | refine w_nil ?_ | refine w_cons ?_ | refine w_set ?_ | refine w_par ?_ | refine w_unp ?_ | refine w_sub ?_ | refine w_exp ?_ | refine w_ret ?_ | refine w_ifs ?_ | refine w_pas ?_ | refine w_fors ?_ | refine w_dat rfl ?_ | refine w_own rfl ?_ | refine w_int ?_ | refine w_bl ?_ | refine w_non ?_ | refine w_str ?_ | (refine' w_con' ?hcon ?_; (case hcon => (conv => lhs; whnf))) | refine w_bin ?_ | refine w_cmp ?_ | refine w_neg ?_ | refine w_not ?_ | refine w_ite ?_ | refine w_and ?_ | refine w_or ?_ | refine w_chn ?_ | refine w_tup ?_ | refine w_lst ?_ | refine w_ix ?_ | refine w_rvl ?_ | refine w_sl ?_ | refine w_call ?_ | refine w_bi ?_ | refine w_mt ?_ | refine w_pm ?_ | refine w_isi ?_ | refine ws_nil ?_ | refine ws_cons ?_ | refine wo_none ?_ | refine wo_some ?_ | refine wt_and ?_ | refine wt_or ?_ | refine wt_not ?_ | refine wt_val rfl ?_ | refine w_its ?_ | refine w_mul rfl rfl (.inr (by decide)) ?_ | refine w_mod rfl rfl (by decide) ?_ | refine w_fdiv rfl rfl (by decide) ?_ | refine w_op2 rfl rfl rfl ?_ | refine w_op1 rfl rfl ?_ | refine w_bfn rfl rfl ?_ | refine w_setp rfl rfl ?_ | refine w_setf rfl rfl ?_ | refine w_bind_nm rfl rfl ?_ | refine w_bind_tp ?_ | refine w_bs_nil ?_ | refine w_bs_cons ?_ | refine c_nil ?_ | refine c_cons ?_ | refine c_cnt ?_ | refine c_brk ?_ | refine c_ifs ?_ | refine c_ex ?_ | refine w_sv_nil ?_ | refine w_sv_cons ?_ | refine w_retp ?_ | refine w_retf ?_ | refine w_reto rfl ?_ | refine w_fzs rfl (lenOk rfl) ?_ | refine w_fzVs rfl ?_ | refine w_fz rfl ?_ | refine w_it rfl rfl ?_); (try dsimp only [List.set_cons_zero, List.set_cons_succ, lockE, unlockE, vws, List.foldl])))
theorem two_parts {p q a b : List Nat} (hp : 35 ∉ p) (ha : 35 ∉ a) (h : p ++ 35 :: q = a ++ 35 :: b) : p = a ∧ q = b := by
  induction p generalizing a with
  | nil =>
    cases a with
    | nil => exact ⟨rfl, by simpa using h⟩
    | cons x a =>
      simp at h
      exact absurd List.mem_cons_self (h.1 ▸ ha)
  | cons x p ih =>
    cases a with
    | nil =>
      simp at h
      exact absurd List.mem_cons_self (h.1 ▸ hp)
    | cons y a =>
      simp at h
      obtain ⟨r1, r2⟩ := ih (fun z => hp (List.mem_cons_of_mem _ z)) (fun z => ha (List.mem_cons_of_mem _ z)) (by simpa using h.2)
      exact ⟨by rw [h.1, r1], r2⟩
theorem count_pf (l : List Nat) : pfn .count (.str l) [.str [35]] = some (.p (.int (PyProof.Rows.cnt 35 l))) := by
  show some (Val.p (D.int (PySem.Txt.count (sT l) (sT [35])))) = _
  rw [show PySem.Txt.count (sT l) (sT [35]) = PyProof.Rows.cnt 35 l from PyProof.Rows.count_cnt (sT l) 35]
theorem split_two {a b : List Nat} (ha : 35 ∉ a) (hb : 35 ∉ b) : PySem.Txt.split (sT (a ++ 35 :: b)) (sT [35]) = [sT a, sT b] := by
  have hl := PyProof.Rows.split_len (sT (a ++ 35 :: b)) 35
  have hf := PySem.StrLaws.split_free (sT (a ++ 35 :: b)) 35
  have hj := PySem.StrLaws.join_split (sT (a ++ 35 :: b)) ⟨#[35]⟩
  rw [show (sT (a ++ 35 :: b)).cps.toList = a ++ 35 :: b from rfl, PyProof.Rows.cnt_append, PyProof.Rows.cnt_cons, PyProof.Rows.cnt_none _ _ ha, PyProof.Rows.cnt_none _ _ hb] at hl
  show PySem.Txt.split (sT (a ++ 35 :: b)) ⟨#[35]⟩ = _
  generalize PySem.Txt.split (sT (a ++ 35 :: b)) ⟨#[35]⟩ = s at hl hf hj
  match s, hl, hf, hj with
  | [p, q], hl, hf, hj =>
    have e := congrArg (fun z : PySem.Str => z.cps.toList) hj
    have e2 : p.cps.toList ++ 35 :: q.cps.toList = a ++ 35 :: b := by
      have e3 : (PySem.Str.join ⟨#[35]⟩ [p, q]).cps.toList = p.cps.toList ++ 35 :: q.cps.toList := by
        have := TL.tl_join ⟨#[35]⟩ [p, q]
        simpa [TL.tl, TL.joinL] using this
      rw [← e3]; exact e
    obtain ⟨r1, r2⟩ := two_parts (hf p (by simp)) ha e2
    have x1 : p = sT a := by
      apply PySem.Str.ext'
      apply Array.toList_inj.mp
      exact r1
    have x2 : q = sT b := by
      apply PySem.Str.ext'
      apply Array.toList_inj.mp
      exact r2
    rw [x1, x2]
  | [], hl, _, _ => simp at hl
  | [_], hl, _, _ => simp at hl
  | _ :: _ :: _ :: _, hl, _, _ => simp at hl; omega
theorem eq_one (n : Int) : deq (.int n) (.int 1) = decide (n = 1) := by
  show (n == 1) = decide (n = 1)
  rw [Bool.eq_iff_iff]
  simp
theorem take_ne {l : List Nat} (h : l.take 4 ≠ kout) : deq (.str (cut l none (some 4))) (.str [111, 117, 116, 58]) = true → False := fun z => by
  rw [cut_hi (j := 4) (b := 4) _ rfl] at z
  have z' : l.take 4 = [111, 117, 116, 58] := by simpa [deq] using z
  exact h z'
theorem split_pf {a b : List Nat} (ha : 35 ∉ a) (hb : 35 ∉ b) (hl : a.length + b.length ≤ 200) : pfn .split (.str (a ++ 35 :: b)) [.str [35]] = some (.fr (.ol [.str a, .str b])) := by
  show (if ([35] : List Nat).isEmpty = false ∧ (a ++ 35 :: b).length + 2 ≤ line then (strVs (PySem.Txt.split (sT (a ++ 35 :: b)) (sT [35]))).map fun l => Val.fr (.ol l) else none) = _
  rw [if_pos ⟨rfl, by rw [List.length_append, List.length_cons]; unfold line; omega⟩, split_two ha hb]
  show ((strV (sT a)).bind fun d => ((strV (sT b)).bind fun d => (strVs []).map (d :: ·)).map (d :: ·)).map _ = _
  rw [strV_sT (by unfold line; omega), strV_sT (by unfold line; omega)]
  rfl
theorem cnt_ge : ∀ l : List Nat, 0 ≤ PyProof.Rows.cnt 35 l
  | [] => Int.le_refl 0
  | n :: l => by
    rw [PyProof.Rows.cnt_cons]
    have := cnt_ge l
    split <;> omega
theorem cnt_pos {l : List Nat} (h : 35 ∈ l) : 1 ≤ PyProof.Rows.cnt 35 l := by
  obtain ⟨a, b, rfl, ha⟩ := List.eq_append_cons_of_mem h
  rw [PyProof.Rows.cnt_append, PyProof.Rows.cnt_cons, if_pos rfl]
  have h1 := cnt_ge a
  have h2 := cnt_ge b
  omega
theorem llink_mid {a b : List Nat} (ha : 35 ∉ a) (hl : a.length + b.length ≤ 200) (h : (a ++ 35 :: b).take 4 ≠ kout) : F_law_is_link [.p (.str (a ++ 35 :: b))] = .ok (.p (.bl (idB a && idB b))) [.p (.str (a ++ 35 :: b))] := by
  refine run_eq ?_
  unfold b_law_is_link
  (simp only [List.map_cons, List.map_nil, List.length_cons, List.length_nil, List.cons_append, List.nil_append, List.replicate_succ, List.replicate_zero, Arg.ss, Nat.reduceAdd, Nat.reduceSub]); decreasing_trivial
  refine w_if (fun z => (take_ne h z).elim) (fun _ => ?_)
  decreasing_trivial
  refine w_pf rfl rfl (count_pf _) ?_
  decreasing_trivial
  rw [eq_one, PyProof.Rows.cnt_append, PyProof.Rows.cnt_cons, PyProof.Rows.cnt_none _ _ ha, if_pos rfl]
  by_cases hb : 35 ∈ b
  · have hc := cnt_pos hb
    refine w_if (fun z => ?_) (fun _ => ?_)
    · exfalso
      have := of_decide_eq_true z
      omega
    · decreasing_trivial
      exact ⟨by rw [id_35 b hb, Bool.and_false], rfl⟩
  · rw [PyProof.Rows.cnt_none _ _ hb]
    refine w_if (fun _ => ?_) (fun z => absurd z (by decide))
    decreasing_trivial
    refine w_pf rfl rfl (split_pf ha hb hl) ?_
    decreasing_trivial
    refine w_callP rfl rfl (lid_ok a (by unfold line; omega)) ?_
    cases q : idB a with
    | true =>
      decreasing_trivial
      refine w_pf rfl rfl (split_pf ha hb hl) ?_
      decreasing_trivial
      refine w_callP rfl rfl (lid_ok b (by unfold line; omega)) ?_
      decreasing_trivial
      exact ⟨rfl, rfl⟩
    | false =>
      decreasing_trivial
      exact ⟨rfl, rfl⟩
theorem llink_none {l : List Nat} (h35 : 35 ∉ l) (h : l.take 4 ≠ kout) : F_law_is_link [.p (.str l)] = .ok (.p (.bl false)) [.p (.str l)] := by
  refine run_eq ?_
  unfold b_law_is_link
  (simp only [List.map_cons, List.map_nil, List.length_cons, List.length_nil, List.cons_append, List.nil_append, List.replicate_succ, List.replicate_zero, Arg.ss, Nat.reduceAdd, Nat.reduceSub]); decreasing_trivial
  refine w_if (fun z => (take_ne h z).elim) (fun _ => ?_)
  decreasing_trivial
  refine w_pf rfl rfl (count_pf _) ?_
  decreasing_trivial
  rw [eq_one, PyProof.Rows.cnt_none _ _ h35]
  refine w_if (fun z => absurd z (by decide)) (fun _ => ?_)
  decreasing_trivial
  exact ⟨rfl, rfl⟩
/-- the two tests of links agree -/
theorem links (l : List Nat) (hl : l.length ≤ 200) (h37 : 37 ∉ l) : ∃ v, F_is_link [.p (.str l)] = .ok (.p (.bl v)) [.p (.str l)] ∧ F_law_is_link [.p (.str l)] = .ok (.p (.bl v)) [.p (.str l)] := by
  by_cases h : l.take 4 = kout
  · obtain ⟨r, rfl⟩ : ∃ r, l = kout ++ r := ⟨l.drop 4, by rw [← h, List.take_append_drop]⟩
    have h1 : r.length ≤ 200 := by rw [List.length_append] at hl; omega
    exact ⟨_, link_out' r h1 (fun z => h37 (List.mem_append_right _ z)), llink_out' r h1⟩
  · by_cases h35 : 35 ∈ l
    · obtain ⟨a, b, rfl, ha⟩ := List.eq_append_cons_of_mem h35
      have h1 : a.length + b.length ≤ 200 := by rw [List.length_append, List.length_cons] at hl; omega
      exact ⟨_, link_mid ha h1 h, llink_mid ha h1 h⟩
    · exact ⟨_, link_none h35 hl h, llink_none h35 h⟩
end K02
namespace K02
open Vd
local macro_rules
  | `(tactic| decreasing_trivial) => `(tactic| repeat ((first | refine w_nil ?_ | refine w_cons ?_ | refine w_set ?_ | refine w_par ?_ | refine w_unp ?_ | refine w_sub ?_ | refine w_exp ?_ | refine w_ret ?_ | refine w_ifs ?_ | refine w_pas ?_ | refine w_fors ?_ | refine w_dat rfl ?_ | refine w_own rfl ?_ | refine w_int ?_ | refine w_bl ?_ | refine w_non ?_ | refine w_str ?_ | (refine' w_con' ?hcon ?_; (case hcon => (conv => lhs; whnf))) | refine w_bin ?_ | refine w_cmp ?_ | refine w_neg ?_ | refine w_not ?_ | refine w_ite ?_ | refine w_and ?_ | refine w_or ?_ | refine w_chn ?_ | refine w_tup ?_ | refine w_lst ?_ | refine w_ix ?_ | refine w_rvl ?_ | refine w_sl ?_ | refine w_call ?_ | refine w_bi ?_ | refine w_mt ?_ | refine w_pm ?_ | refine w_isi ?_ | refine ws_nil ?_ | refine ws_cons ?_ | refine wo_none ?_ | refine wo_some ?_ | refine wt_and ?_ | refine wt_or ?_ | refine wt_not ?_ | refine wt_val rfl ?_ | refine w_its ?_ | refine w_mul rfl rfl (.inr (by decide)) ?_ | refine w_mod rfl rfl (by decide) ?_ | refine w_fdiv rfl rfl (by decide) ?_ | refine w_op2 rfl rfl rfl ?_ | refine w_op1 rfl rfl ?_ | refine w_bfn rfl rfl ?_ | refine w_setp rfl rfl ?_ | refine w_setf rfl rfl ?_ | refine w_bind_nm rfl rfl ?_ | refine w_bind_tp ?_ | refine w_bs_nil ?_ | refine w_bs_cons ?_ | refine c_nil ?_ | refine c_cons ?_ | refine c_cnt ?_ | refine c_brk ?_ | refine c_ifs ?_ | refine c_ex ?_ | refine w_sv_nil ?_ | refine w_sv_cons ?_ | refine w_retp ?_ | refine w_retf ?_ | refine w_reto rfl ?_ | refine w_fzs rfl (lenOk rfl) ?_ | refine w_fzVs rfl ?_ | refine w_fz rfl ?_ | refine w_it rfl rfl ?_); (try dsimp only [List.set_cons_zero, List.set_cons_succ, lockE, unlockE, vws, List.foldl])))
def Agree (d : D) : Prop := ∃ v, F_is_token [.p d] = .ok (.p (.bl v)) [.p d] ∧ F_law_is_token [.p d] = .ok (.p (.bl v)) [.p d]
theorem ag_no (d : D) (h : nonT d = true) : Agree d := ⟨false, tok_no d h, ltok_no d h⟩
theorem ag_0 : Agree (.tup []) := ⟨false, run_eq (by unfold b_is_token; (simp only [List.map_cons, List.map_nil, List.length_cons, List.length_nil, List.cons_append, List.nil_append, List.replicate_succ, List.replicate_zero, Arg.ss, Nat.reduceAdd, Nat.reduceSub]); decreasing_trivial; exact ⟨rfl, rfl⟩), run_eq (by unfold b_law_is_token; (simp only [List.map_cons, List.map_nil, List.length_cons, List.length_nil, List.cons_append, List.nil_append, List.replicate_succ, List.replicate_zero, Arg.ss, Nat.reduceAdd, Nat.reduceSub]); decreasing_trivial; exact ⟨rfl, rfl⟩)⟩
theorem ag_1 (x : D) : Agree (.tup [x]) := ⟨false, run_eq (by unfold b_is_token; (simp only [List.map_cons, List.map_nil, List.length_cons, List.length_nil, List.cons_append, List.nil_append, List.replicate_succ, List.replicate_zero, Arg.ss, Nat.reduceAdd, Nat.reduceSub]); decreasing_trivial; exact ⟨rfl, rfl⟩), run_eq (by unfold b_law_is_token; (simp only [List.map_cons, List.map_nil, List.length_cons, List.length_nil, List.cons_append, List.nil_append, List.replicate_succ, List.replicate_zero, Arg.ss, Nat.reduceAdd, Nat.reduceSub]); decreasing_trivial; exact ⟨rfl, rfl⟩)⟩
theorem it0 (d : D) (l : List D) : item (.tup (d :: l)) (.int 0) = some d := by
  simp [item, ixn]
theorem ag_first (x y : D) (l : List D) (h : nonS x = true) : Agree (.tup (x :: y :: l)) := by
  have h2 : ¬ ((x :: y :: l).length : Int) < 2 := by simp; omega
  refine ⟨false, ?_, ?_⟩
  · refine run_eq ?_
    unfold b_is_token
    (simp only [List.map_cons, List.map_nil, List.length_cons, List.length_nil, List.cons_append, List.nil_append, List.replicate_succ, List.replicate_zero, Arg.ss, Nat.reduceAdd, Nat.reduceSub]); decreasing_trivial
    refine w_ixD rfl rfl (it0 _ _) ?_
    cases x <;> first | (cases h; done) | (decreasing_trivial; exact ⟨rfl, rfl⟩)
  · refine run_eq ?_
    unfold b_law_is_token
    (simp only [List.map_cons, List.map_nil, List.length_cons, List.length_nil, List.cons_append, List.nil_append, List.replicate_succ, List.replicate_zero, Arg.ss, Nat.reduceAdd, Nat.reduceSub]); decreasing_trivial
    refine w_ixD rfl rfl (it0 _ _) ?_
    cases x <;> first | (cases h; done) | (decreasing_trivial; exact ⟨rfl, rfl⟩)
/-- word and text -/
theorem ag_2 (w k : List Nat) (hw : w = kchar ∨ w = kopen ∨ w = kclose) : Agree (.tup [.str w, .str k]) := by
  by_cases hc : w = kchar
  · subst hc
    exact ⟨false, run_eq (by unfold b_is_token; (simp only [List.map_cons, List.map_nil, List.length_cons, List.length_nil, List.cons_append, List.nil_append, List.replicate_succ, List.replicate_zero, Arg.ss, Nat.reduceAdd, Nat.reduceSub]); decreasing_trivial; exact ⟨rfl, rfl⟩), run_eq (by unfold b_law_is_token; (simp only [List.map_cons, List.map_nil, List.length_cons, List.length_nil, List.cons_append, List.nil_append, List.replicate_succ, List.replicate_zero, Arg.ss, Nat.reduceAdd, Nat.reduceSub]); decreasing_trivial; exact ⟨rfl, rfl⟩)⟩
  have ho : w = kopen ∨ w = kclose := hw.resolve_left hc
  · refine ⟨decide (k ∈ kinds8), ?_, ?_⟩
    · rcases ho with rfl | rfl
      · refine run_eq ?_
        unfold b_is_token
        (simp only [List.map_cons, List.map_nil, List.length_cons, List.length_nil, List.cons_append, List.nil_append, List.replicate_succ, List.replicate_zero, Arg.ss, Nat.reduceAdd, Nat.reduceSub]); decreasing_trivial
        refine w_callP rfl rfl (sort_ok k) ?_
        by_cases hb : k ∈ boxK
        · rw [if_pos hb]
          decreasing_trivial
          exact ⟨by rw [decide_eq_true (show k ∈ kinds8 from List.mem_append_left _ hb)]; rfl, rfl⟩
        · rw [if_neg hb]
          by_cases hl : k ∈ lineK
          · rw [if_pos hl]
            decreasing_trivial
            exact ⟨by rw [decide_eq_true (show k ∈ kinds8 from List.mem_append_right _ hl)]; rfl, rfl⟩
          · rw [if_neg hl]
            decreasing_trivial
            exact ⟨by rw [decide_eq_false (show k ∉ kinds8 from fun z => (List.mem_append.mp z).elim hb hl)]; rfl, rfl⟩
      · refine run_eq ?_
        unfold b_is_token
        (simp only [List.map_cons, List.map_nil, List.length_cons, List.length_nil, List.cons_append, List.nil_append, List.replicate_succ, List.replicate_zero, Arg.ss, Nat.reduceAdd, Nat.reduceSub]); decreasing_trivial
        refine w_callP rfl rfl (sort_ok k) ?_
        by_cases hb : k ∈ boxK
        · rw [if_pos hb]
          decreasing_trivial
          exact ⟨by rw [decide_eq_true (show k ∈ kinds8 from List.mem_append_left _ hb)]; rfl, rfl⟩
        · rw [if_neg hb]
          by_cases hl : k ∈ lineK
          · rw [if_pos hl]
            decreasing_trivial
            exact ⟨by rw [decide_eq_true (show k ∈ kinds8 from List.mem_append_right _ hl)]; rfl, rfl⟩
          · rw [if_neg hl]
            decreasing_trivial
            exact ⟨by rw [decide_eq_false (show k ∉ kinds8 from fun z => (List.mem_append.mp z).elim hb hl)]; rfl, rfl⟩
    · rcases ho with rfl | rfl
      · refine run_eq ?_
        unfold b_law_is_token
        (simp only [List.map_cons, List.map_nil, List.length_cons, List.length_nil, List.cons_append, List.nil_append, List.replicate_succ, List.replicate_zero, Arg.ss, Nat.reduceAdd, Nat.reduceSub]); decreasing_trivial
        exact ⟨by rw [← inDS k kinds8]; rfl, rfl⟩
      · refine run_eq ?_
        unfold b_law_is_token
        (simp only [List.map_cons, List.map_nil, List.length_cons, List.length_nil, List.cons_append, List.nil_append, List.replicate_succ, List.replicate_zero, Arg.ss, Nat.reduceAdd, Nat.reduceSub]); decreasing_trivial
        exact ⟨by rw [← inDS k kinds8]; rfl, rfl⟩
theorem dS (a b : List Nat) : deq (.str a) (.str b) = decide (a = b) := by
  by_cases h : a = b
  · subst h; simp [deq]
  · simp [deq, h]
theorem ag_2o (w k : List Nat) (h1 : w ≠ kchar) (h2 : w ≠ kopen) (h3 : w ≠ kclose) (hk : k.length ≤ 200) : Agree (.tup [.str w, .str k]) := by
  have d1 : deq (.str w) (.str [99, 104, 97, 114]) = false := by rw [dS]; exact decide_eq_false h1
  have d2 : deq (.str w) (.str [111, 112, 101, 110]) = false := by rw [dS]; exact decide_eq_false h2
  have d3 : deq (.str w) (.str [99, 108, 111, 115, 101]) = false := by rw [dS]; exact decide_eq_false h3
  refine ⟨decide (w ∈ [kanch, kimag]) && idB k, ?_, ?_⟩
  · refine run_eq ?_
    unfold b_is_token
    (simp only [List.map_cons, List.map_nil, List.length_cons, List.length_nil, List.cons_append, List.nil_append, List.replicate_succ, List.replicate_zero, Arg.ss, Nat.reduceAdd, Nat.reduceSub]); decreasing_trivial
    rw [d1]
    refine w_if (fun z => by cases z) (fun _ => ?_)
    decreasing_trivial
    rw [d2]
    refine w_if (fun z => by cases z) (fun _ => ?_)
    decreasing_trivial
    rw [d3]
    refine w_if (fun z => by cases z) (fun _ => ?_)
    decreasing_trivial
    have hi : inD (.str w) [.str [97, 110, 99, 104, 111, 114], .str [105, 109, 97, 103, 101]] = decide (w ∈ [kanch, kimag]) := inDS w [kanch, kimag]
    rw [hi]
    by_cases hm : w ∈ [kanch, kimag]
    · rw [decide_eq_true hm]
      refine w_if (fun _ => ?_) (fun z => by cases z)
      decreasing_trivial
      refine w_callP rfl rfl (id_ok k (by unfold line; omega)) ?_
      decreasing_trivial
      exact ⟨rfl, rfl⟩
    · rw [decide_eq_false hm]
      refine w_if (fun z => by cases z) (fun _ => ?_)
      decreasing_trivial
      exact ⟨rfl, rfl⟩
  · refine run_eq ?_
    unfold b_law_is_token
    (simp only [List.map_cons, List.map_nil, List.length_cons, List.length_nil, List.cons_append, List.nil_append, List.replicate_succ, List.replicate_zero, Arg.ss, Nat.reduceAdd, Nat.reduceSub]); decreasing_trivial
    rw [d1]
    refine w_if (fun z => by cases z) (fun _ => ?_)
    decreasing_trivial
    rw [show inD (.str w) [.str [111, 112, 101, 110], .str [99, 108, 111, 115, 101]] = false from (inDS w [kopen, kclose]).trans (decide_eq_false (by simp [h2, h3]))]
    refine w_if (fun z => by cases z) (fun _ => ?_)
    decreasing_trivial
    have hi : inD (.str w) [.str [97, 110, 99, 104, 111, 114], .str [105, 109, 97, 103, 101]] = decide (w ∈ [kanch, kimag]) := inDS w [kanch, kimag]
    rw [hi]
    by_cases hm : w ∈ [kanch, kimag]
    · rw [decide_eq_true hm]
      refine w_if (fun _ => ?_) (fun z => by cases z)
      decreasing_trivial
      refine w_callP rfl rfl (lid_ok k (by unfold line; omega)) ?_
      decreasing_trivial
      exact ⟨rfl, rfl⟩
    · rw [decide_eq_false hm]
      refine w_if (fun z => by cases z) (fun _ => ?_)
      decreasing_trivial
      exact ⟨rfl, rfl⟩
end K02
namespace K02
open Vd
local macro_rules
  | `(tactic| decreasing_trivial) => `(tactic| repeat ((first | refine w_nil ?_ | refine w_cons ?_ | refine w_set ?_ | refine w_par ?_ | refine w_unp ?_ | refine w_sub ?_ | refine w_exp ?_ | refine w_ret ?_ | refine w_ifs ?_ | refine w_pas ?_ | refine w_fors ?_ | refine w_dat rfl ?_ | refine w_own rfl ?_ | refine w_int ?_ | refine w_bl ?_ | refine w_non ?_ | refine w_str ?_ | (refine' w_con' ?hcon ?_; (case hcon => (conv => lhs; whnf))) | refine w_bin ?_ | refine w_cmp ?_ | refine w_neg ?_ | refine w_not ?_ | refine w_ite ?_ | refine w_and ?_ | refine w_or ?_ | refine w_chn ?_ | refine w_tup ?_ | refine w_lst ?_ | refine w_ix ?_ | refine w_rvl ?_ | refine w_sl ?_ | refine w_call ?_ | refine w_bi ?_ | refine w_mt ?_ | refine w_pm ?_ | refine w_isi ?_ | refine ws_nil ?_ | refine ws_cons ?_ | refine wo_none ?_ | refine wo_some ?_ | refine wt_and ?_ | refine wt_or ?_ | refine wt_not ?_ | refine wt_val rfl ?_ | refine w_its ?_ | refine w_mul rfl rfl (.inr (by decide)) ?_ | refine w_mod rfl rfl (by decide) ?_ | refine w_fdiv rfl rfl (by decide) ?_ | refine w_op2 rfl rfl rfl ?_ | refine w_op1 rfl rfl ?_ | refine w_bfn rfl rfl ?_ | refine w_setp rfl rfl ?_ | refine w_setf rfl rfl ?_ | refine w_bind_nm rfl rfl ?_ | refine w_bind_tp ?_ | refine w_bs_nil ?_ | refine w_bs_cons ?_ | refine c_nil ?_ | refine c_cons ?_ | refine c_cnt ?_ | refine c_brk ?_ | refine c_ifs ?_ | refine c_ex ?_ | refine w_sv_nil ?_ | refine w_sv_cons ?_ | refine w_retp ?_ | refine w_retf ?_ | refine w_reto rfl ?_ | refine w_fzs rfl (lenOk rfl) ?_ | refine w_fzVs rfl ?_ | refine w_fz rfl ?_ | refine w_it rfl rfl ?_); (try dsimp only [List.set_cons_zero, List.set_cons_succ, lockE, unlockE, vws, List.foldl])))
theorem ag_3 (w : List Nat) (x y : D) : Agree (.tup [.str w, x, y]) := by
  by_cases h1 : w = kchar
  · subst h1
    exact ⟨false, run_eq (by unfold b_is_token; (simp only [List.map_cons, List.map_nil, List.length_cons, List.length_nil, List.cons_append, List.nil_append, List.replicate_succ, List.replicate_zero, Arg.ss, Nat.reduceAdd, Nat.reduceSub]); decreasing_trivial; exact ⟨rfl, rfl⟩), run_eq (by unfold b_law_is_token; (simp only [List.map_cons, List.map_nil, List.length_cons, List.length_nil, List.cons_append, List.nil_append, List.replicate_succ, List.replicate_zero, Arg.ss, Nat.reduceAdd, Nat.reduceSub]); decreasing_trivial; exact ⟨rfl, rfl⟩)⟩
  have d1 : deq (.str w) (.str [99, 104, 97, 114]) = false := by rw [dS]; exact decide_eq_false h1
  refine ⟨false, ?_, ?_⟩
  · refine run_eq ?_
    unfold b_is_token
    (simp only [List.map_cons, List.map_nil, List.length_cons, List.length_nil, List.cons_append, List.nil_append, List.replicate_succ, List.replicate_zero, Arg.ss, Nat.reduceAdd, Nat.reduceSub]); decreasing_trivial
    rw [d1]
    refine w_if (fun z => by cases z) (fun _ => ?_)
    decreasing_trivial
    exact ⟨rfl, rfl⟩
  · refine run_eq ?_
    unfold b_law_is_token
    (simp only [List.map_cons, List.map_nil, List.length_cons, List.length_nil, List.cons_append, List.nil_append, List.replicate_succ, List.replicate_zero, Arg.ss, Nat.reduceAdd, Nat.reduceSub]); decreasing_trivial
    rw [d1]
    refine w_if (fun z => by cases z) (fun _ => ?_)
    decreasing_trivial
    exact ⟨rfl, rfl⟩
theorem ag_5 (w : List Nat) (x y z u : D) : Agree (.tup [.str w, x, y, z, u]) := by
  by_cases h1 : w = kchar
  · subst h1
    exact ⟨false, run_eq (by unfold b_is_token; (simp only [List.map_cons, List.map_nil, List.length_cons, List.length_nil, List.cons_append, List.nil_append, List.replicate_succ, List.replicate_zero, Arg.ss, Nat.reduceAdd, Nat.reduceSub]); decreasing_trivial; exact ⟨rfl, rfl⟩), run_eq (by unfold b_law_is_token; (simp only [List.map_cons, List.map_nil, List.length_cons, List.length_nil, List.cons_append, List.nil_append, List.replicate_succ, List.replicate_zero, Arg.ss, Nat.reduceAdd, Nat.reduceSub]); decreasing_trivial; exact ⟨rfl, rfl⟩)⟩
  have d1 : deq (.str w) (.str [99, 104, 97, 114]) = false := by rw [dS]; exact decide_eq_false h1
  refine ⟨false, ?_, ?_⟩
  · refine run_eq ?_
    unfold b_is_token
    (simp only [List.map_cons, List.map_nil, List.length_cons, List.length_nil, List.cons_append, List.nil_append, List.replicate_succ, List.replicate_zero, Arg.ss, Nat.reduceAdd, Nat.reduceSub]); decreasing_trivial
    rw [d1]
    refine w_if (fun z => by cases z) (fun _ => ?_)
    decreasing_trivial
    exact ⟨rfl, rfl⟩
  · refine run_eq ?_
    unfold b_law_is_token
    (simp only [List.map_cons, List.map_nil, List.length_cons, List.length_nil, List.cons_append, List.nil_append, List.replicate_succ, List.replicate_zero, Arg.ss, Nat.reduceAdd, Nat.reduceSub]); decreasing_trivial
    rw [d1]
    refine w_if (fun z => by cases z) (fun _ => ?_)
    decreasing_trivial
    exact ⟨rfl, rfl⟩
end K02
namespace K02
open Vd
local macro_rules
  | `(tactic| decreasing_trivial) => `(tactic| repeat ((first | refine w_nil ?_ | refine w_cons ?_ | refine w_set ?_ | refine w_par ?_ | refine w_unp ?_ | refine w_sub ?_ | refine w_exp ?_ | refine w_ret ?_ | refine w_ifs ?_ | refine w_pas ?_ | refine w_fors ?_ | refine w_dat rfl ?_ | refine w_own rfl ?_ | refine w_int ?_ | refine w_bl ?_ | refine w_non ?_ | refine w_str ?_ | (refine' w_con' ?hcon ?_; (case hcon => (conv => lhs; whnf))) | refine w_bin ?_ | refine w_cmp ?_ | refine w_neg ?_ | refine w_not ?_ | refine w_ite ?_ | refine w_and ?_ | refine w_or ?_ | refine w_chn ?_ | refine w_tup ?_ | refine w_lst ?_ | refine w_ix ?_ | refine w_rvl ?_ | refine w_sl ?_ | refine w_call ?_ | refine w_bi ?_ | refine w_mt ?_ | refine w_pm ?_ | refine w_isi ?_ | refine ws_nil ?_ | refine ws_cons ?_ | refine wo_none ?_ | refine wo_some ?_ | refine wt_and ?_ | refine wt_or ?_ | refine wt_not ?_ | refine wt_val rfl ?_ | refine w_its ?_ | refine w_mul rfl rfl (.inr (by decide)) ?_ | refine w_mod rfl rfl (by decide) ?_ | refine w_fdiv rfl rfl (by decide) ?_ | refine w_op2 rfl rfl rfl ?_ | refine w_op1 rfl rfl ?_ | refine w_bfn rfl rfl ?_ | refine w_setp rfl rfl ?_ | refine w_setf rfl rfl ?_ | refine w_bind_nm rfl rfl ?_ | refine w_bind_tp ?_ | refine w_bs_nil ?_ | refine w_bs_cons ?_ | refine c_nil ?_ | refine c_cons ?_ | refine c_cnt ?_ | refine c_brk ?_ | refine c_ifs ?_ | refine c_ex ?_ | refine w_sv_nil ?_ | refine w_sv_cons ?_ | refine w_retp ?_ | refine w_retf ?_ | refine w_reto rfl ?_ | refine w_fzs rfl (lenOk rfl) ?_ | refine w_fzVs rfl ?_ | refine w_fz rfl ?_ | refine w_it rfl rfl ?_); (try dsimp only [List.set_cons_zero, List.set_cons_succ, lockE, unlockE, vws, List.foldl])))
theorem text_no (d : D) (h : nonS d = true) : F_is_text [.p d] = .ok (.p (.bl false)) [.p d] := by
  refine run_eq ?_
  unfold b_is_text
  (simp only [List.map_cons, List.map_nil, List.length_cons, List.length_nil, List.cons_append, List.nil_append, List.replicate_succ, List.replicate_zero, Arg.ss, Nat.reduceAdd, Nat.reduceSub])
  cases d <;> first | (cases h; done) | (decreasing_trivial; exact ⟨rfl, rfl⟩)
/-- is_char and the law's own look agree on tuples of four -/
def AgC (d : D) : Prop := ∃ v, F_is_char [.p d] = .ok (.p (.bl v)) [.p d] ∧ F_law_is_token [.p d] = .ok (.p (.bl v)) [.p d]
theorem ag_of {x y z : D} (h : AgC (.tup [.str kchar, x, y, z])) : Agree (.tup [.str kchar, x, y, z]) := by
  obtain ⟨v, h1, h2⟩ := h
  refine ⟨v, ?_, h2⟩
  refine run_eq ?_
  unfold b_is_token
  (simp only [List.map_cons, List.map_nil, List.length_cons, List.length_nil, List.cons_append, List.nil_append, List.replicate_succ, List.replicate_zero, Arg.ss, Nat.reduceAdd, Nat.reduceSub]); decreasing_trivial
  refine w_callP rfl rfl h1 ?_
  decreasing_trivial
  exact ⟨rfl, rfl⟩
theorem agc_sg (x y z : D) (h : nonS x = true) : AgC (.tup [.str kchar, x, y, z]) := by
  refine ⟨false, ?_, ?_⟩
  · refine run_eq ?_
    unfold b_is_char
    (simp only [List.map_cons, List.map_nil, List.length_cons, List.length_nil, List.cons_append, List.nil_append, List.replicate_succ, List.replicate_zero, Arg.ss, Nat.reduceAdd, Nat.reduceSub]); decreasing_trivial
    refine w_callP rfl rfl (text_no x h) ?_
    decreasing_trivial
    exact ⟨rfl, rfl⟩
  · refine run_eq ?_
    unfold b_law_is_token
    (simp only [List.map_cons, List.map_nil, List.length_cons, List.length_nil, List.cons_append, List.nil_append, List.replicate_succ, List.replicate_zero, Arg.ss, Nat.reduceAdd, Nat.reduceSub]); decreasing_trivial
    cases x <;> first | (cases h; done) | (decreasing_trivial; exact ⟨rfl, rfl⟩)
/-- a text of another length, or of one sign that is none -/
theorem agc_str (l : List Nat) (y z : D) (hl : l.length ≤ 200) (h : ∀ c, l = [c] → txt c = false ∧ c ≠ 37) : AgC (.tup [.str kchar, .str l, y, z]) := by
  refine ⟨false, ?_, ?_⟩
  · refine run_eq ?_
    unfold b_is_char
    (simp only [List.map_cons, List.map_nil, List.length_cons, List.length_nil, List.cons_append, List.nil_append, List.replicate_succ, List.replicate_zero, Arg.ss, Nat.reduceAdd, Nat.reduceSub]); decreasing_trivial
    refine w_callP rfl rfl (text_ok l (by unfold line; omega)) ?_
    cases q : l.all txt with
    | false => decreasing_trivial; exact ⟨rfl, rfl⟩
    | true =>
      decreasing_trivial
      have h1 : l.length ≠ 1 := fun e => by
        obtain ⟨c, rfl⟩ := List.length_eq_one_iff.mp e
        have := (h c rfl).1
        simp [this] at q
      refine w_if (fun _ => ?_) (fun z => ?_)
      · decreasing_trivial
        exact ⟨rfl, rfl⟩
      · exfalso
        simp [deq] at z
        omega
  · refine run_eq ?_
    unfold b_law_is_token
    (simp only [List.map_cons, List.map_nil, List.length_cons, List.length_nil, List.cons_append, List.nil_append, List.replicate_succ, List.replicate_zero, Arg.ss, Nat.reduceAdd, Nat.reduceSub]); decreasing_trivial
    refine w_if (fun _ => ?_) (fun z => ?_)
    · decreasing_trivial
      exact ⟨rfl, rfl⟩
    · have h1 : l.length = 1 := by simp [deq] at z; omega
      obtain ⟨c, rfl⟩ := List.length_eq_one_iff.mp h1
      obtain ⟨h2, h3⟩ := h c rfl
      decreasing_trivial
      rw [le_sg']
      refine w_if (fun k1 => ?_) (fun k1 => ?_)
      · decreasing_trivial
        rw [le_sg']
        refine w_if (fun k2 => ?_) (fun k2 => ?_)
        · decreasing_trivial
          exact ⟨rfl, rfl⟩
        · exfalso
          have k1 := of_decide_eq_true k1
          simp only [Bool.not_eq_false', decide_eq_true_eq] at k2
          simp [txt] at h2
          omega
      · decreasing_trivial
        exact ⟨rfl, rfl⟩
def sts6 : List (List (List Nat)) := [[], [[99, 111, 100, 101]], [[99, 111, 100, 101], [115, 108, 97, 110, 116], [115, 116, 114, 111, 110, 103]], [[115, 116, 114, 111, 110, 103], [99, 111, 100, 101]], [[115, 108, 97, 110, 116], [115, 108, 97, 110, 116]], [[98, 111, 108, 100]]]
def good (st : List (List Nat)) : Bool := decide (sty3.filter (fun x => decide (x ∈ st)) = st)
theorem good_ne : ∀ st ∈ sts6, cop .ne (.tup (st.map .str)) (.tup ((sty3.filter (fun x => decide (x ∈ st))).map .str)) = some (!good st) := by
  intro st h
  simp only [sts6, List.mem_cons, List.not_mem_nil, or_false] at h
  rcases h with rfl | rfl | rfl | rfl | rfl | rfl <;> rfl
theorem good_in : ∀ st ∈ sts6, cop .isin (.tup (st.map .str)) (.lst ([.tup [], .tup [.str [99, 111, 100, 101]], .tup [.str [115, 108, 97, 110, 116]], .tup [.str [115, 116, 114, 111, 110, 103]], .tup [.str [99, 111, 100, 101], .str [115, 108, 97, 110, 116]], .tup [.str [99, 111, 100, 101], .str [115, 116, 114, 111, 110, 103]], .tup [.str [115, 108, 97, 110, 116], .str [115, 116, 114, 111, 110, 103]]] ++ [.tup [.str [99, 111, 100, 101], .str [115, 108, 97, 110, 116], .str [115, 116, 114, 111, 110, 103]]])) = some (good st) := by
  intro st h
  simp only [sts6, List.mem_cons, List.not_mem_nil, or_false] at h
  rcases h with rfl | rfl | rfl | rfl | rfl | rfl <;> rfl
theorem agc_c (c : Nat) (y k : D) (hc : txt c = true) (v : Bool) (hk : (k = .non ∧ v = true) ∨ (isNon k = false ∧ F_is_link [.p k] = .ok (.p (.bl v)) [.p k] ∧ F_law_is_link [.p k] = .ok (.p (.bl v)) [.p k])) (hy : (∃ st ∈ sts6, y = .tup (st.map .str)) ∨ nonT y = true) : AgC (.tup [.str kchar, .str [c], y, k]) := by
  have hc2 : 32 ≤ c ∧ c ≤ 126 := by simp [txt] at hc; omega
  rcases hy with ⟨st, hst, rfl⟩ | hy
  · refine ⟨good st && v, ?_, ?_⟩
    · refine run_eq ?_
      unfold b_is_char
      (simp only [List.map_cons, List.map_nil, List.length_cons, List.length_nil, List.cons_append, List.nil_append, List.replicate_succ, List.replicate_zero, Arg.ss, Nat.reduceAdd, Nat.reduceSub]); decreasing_trivial
      refine w_callP rfl rfl (text_ok [c] (by show 1 ≤ line; decide)) ?_
      rw [show [c].all txt = true by simp [hc]]
      decreasing_trivial
      refine w_lcF sty3 .str (fun x => decide (x ∈ st)) .str ?_
      decreasing_trivial
      refine ⟨rfl, fun x hx => ?_, by decide, ?_⟩
      · refine w_bind_nm rfl rfl ?_
        refine ⟨rfl, ?_⟩
        dsimp only [lockE, vws, List.foldl, wipeE, List.set_cons_zero, List.set_cons_succ]
        rw [evc]
        decreasing_trivial
        refine w_cmpD rfl rfl (in_tupS x st) ?_
        decreasing_trivial
        exact ⟨rfl, rfl, fun _ => by decreasing_trivial; exact ⟨rfl, rfl⟩⟩
      · decreasing_trivial
        refine w_cmpD rfl rfl (good_ne st hst) ?_
        cases good st with
        | false => decreasing_trivial; exact ⟨rfl, rfl⟩
        | true =>
          decreasing_trivial
          rcases hk with ⟨rfl, rfl⟩ | ⟨h0, h1, h2⟩
          · decreasing_trivial
            exact ⟨rfl, rfl⟩
          · rw [h0]
            refine w_if (fun z => by cases z) (fun _ => ?_)
            decreasing_trivial
            refine w_callP rfl rfl h1 ?_
            decreasing_trivial
            exact ⟨rfl, rfl⟩
    · refine run_eq ?_
      unfold b_law_is_token
      (simp only [List.map_cons, List.map_nil, List.length_cons, List.length_nil, List.cons_append, List.nil_append, List.replicate_succ, List.replicate_zero, Arg.ss, Nat.reduceAdd, Nat.reduceSub]); decreasing_trivial
      rw [le_sg', decide_eq_true hc2.1]
      refine w_if (fun _ => ?_) (fun z => by cases z)
      decreasing_trivial
      rw [le_sg', decide_eq_true hc2.2]
      refine w_if (fun z => by cases z) (fun _ => ?_)
      decreasing_trivial
      refine w_cmpD rfl rfl (good_in st hst) ?_
      decreasing_trivial
      cases good st with
      | false => decreasing_trivial; exact ⟨rfl, rfl⟩
      | true =>
        decreasing_trivial
        rcases hk with ⟨rfl, rfl⟩ | ⟨h0, h1, h2⟩
        · decreasing_trivial
          exact ⟨rfl, rfl⟩
        · rw [h0]
          refine w_if (fun z => by cases z) (fun _ => ?_)
          decreasing_trivial
          refine w_callP rfl rfl h2 ?_
          decreasing_trivial
          exact ⟨rfl, rfl⟩
  · refine ⟨false, ?_, ?_⟩
    · refine run_eq ?_
      unfold b_is_char
      (simp only [List.map_cons, List.map_nil, List.length_cons, List.length_nil, List.cons_append, List.nil_append, List.replicate_succ, List.replicate_zero, Arg.ss, Nat.reduceAdd, Nat.reduceSub]); decreasing_trivial
      refine w_callP rfl rfl (text_ok [c] (by show 1 ≤ line; decide)) ?_
      rw [show [c].all txt = true by simp [hc]]
      decreasing_trivial
      cases y <;> first | (cases hy; done) | (decreasing_trivial; exact ⟨rfl, rfl⟩)
    · refine run_eq ?_
      unfold b_law_is_token
      (simp only [List.map_cons, List.map_nil, List.length_cons, List.length_nil, List.cons_append, List.nil_append, List.replicate_succ, List.replicate_zero, Arg.ss, Nat.reduceAdd, Nat.reduceSub]); decreasing_trivial
      rw [le_sg', decide_eq_true hc2.1]
      refine w_if (fun _ => ?_) (fun z => by cases z)
      decreasing_trivial
      rw [le_sg', decide_eq_true hc2.2]
      refine w_if (fun z => by cases z) (fun _ => ?_)
      decreasing_trivial
      cases y <;> first | (cases hy; done) | (decreasing_trivial; exact ⟨rfl, rfl⟩)
end K02
namespace K02
open Vd
local macro_rules
  | `(tactic| decreasing_trivial) => `(tactic| repeat ((first | refine w_nil ?_ | refine w_cons ?_ | refine w_set ?_ | refine w_par ?_ | refine w_unp ?_ | refine w_sub ?_ | refine w_exp ?_ | refine w_ret ?_ | refine w_ifs ?_ | refine w_pas ?_ | refine w_fors ?_ | refine w_dat rfl ?_ | refine w_own rfl ?_ | refine w_int ?_ | refine w_bl ?_ | refine w_non ?_ | refine w_str ?_ | (refine' w_con' ?hcon ?_; (case hcon => (conv => lhs; whnf))) | refine w_bin ?_ | refine w_cmp ?_ | refine w_neg ?_ | refine w_not ?_ | refine w_ite ?_ | refine w_and ?_ | refine w_or ?_ | refine w_chn ?_ | refine w_tup ?_ | refine w_lst ?_ | refine w_ix ?_ | refine w_rvl ?_ | refine w_sl ?_ | refine w_call ?_ | refine w_bi ?_ | refine w_mt ?_ | refine w_pm ?_ | refine w_isi ?_ | refine ws_nil ?_ | refine ws_cons ?_ | refine wo_none ?_ | refine wo_some ?_ | refine wt_and ?_ | refine wt_or ?_ | refine wt_not ?_ | refine wt_val rfl ?_ | refine w_its ?_ | refine w_mul rfl rfl (.inr (by decide)) ?_ | refine w_mod rfl rfl (by decide) ?_ | refine w_fdiv rfl rfl (by decide) ?_ | refine w_op2 rfl rfl rfl ?_ | refine w_op1 rfl rfl ?_ | refine w_bfn rfl rfl ?_ | refine w_setp rfl rfl ?_ | refine w_setf rfl rfl ?_ | refine w_bind_nm rfl rfl ?_ | refine w_bind_tp ?_ | refine w_bs_nil ?_ | refine w_bs_cons ?_ | refine c_nil ?_ | refine c_cons ?_ | refine c_cnt ?_ | refine c_brk ?_ | refine c_ifs ?_ | refine c_ex ?_ | refine w_sv_nil ?_ | refine w_sv_cons ?_ | refine w_retp ?_ | refine w_retf ?_ | refine w_reto rfl ?_ | refine w_fzs rfl (lenOk rfl) ?_ | refine w_fzVs rfl ?_ | refine w_fz rfl ?_ | refine w_it rfl rfl ?_); (try dsimp only [List.set_cons_zero, List.set_cons_succ, lockE, unlockE, vws, List.foldl])))
theorem hNext : Draws F_law_next := draws_ok (ce := ce_law_next) (ce' := ce_law_mixed) (i := 7) rfl
theorem item_map {α : Type} (f : α → D) {l : List α} {r : Int} (h0 : 0 ≤ r) (h1 : r < l.length) : ∃ m ∈ l, item (.lst (l.map f)) (.int r) = some (f m) := by
  obtain ⟨k, rfl⟩ := Int.eq_ofNat_of_zero_le h0
  have hk : k < l.length := by omega
  refine ⟨l[k], List.getElem_mem hk, ?_⟩
  simp [item, ixn, hk]
theorem item_str {l : List Nat} {r : Int} (h0 : 0 ≤ r) (h1 : r < l.length) : ∃ m ∈ l, item (.str l) (.int r) = some (.str [m]) := by
  obtain ⟨k, rfl⟩ := Int.eq_ofNat_of_zero_le h0
  have hk : k < l.length := by omega
  refine ⟨l[k], List.getElem_mem hk, ?_⟩
  simp [item, ixn, hk]
abbrev ch1 (c : Nat) : D := .str [c]
theorem flat1 : ∀ l : List Nat, (l.map fun c => [c]).flatten = l
  | [] => rfl
  | c :: l => by rw [List.map_cons, List.flatten_cons, flat1 l]; rfl
/-- a text of at most n signs without 37 -/
def Tx (n : Nat) (w : List Nat) : Prop := w.length ≤ n ∧ 37 ∉ w
theorem Tx.app {a b : List Nat} {n m k : Nat} (h : Tx n a) (g : Tx m b) (e : n + m ≤ k) : Tx k (a ++ b) := ⟨by have := h.1; have := g.1; rw [List.length_append]; omega, fun z => (List.mem_append.mp z).elim h.2 g.2⟩
theorem Tx.mono {a : List Nat} {n m : Nat} (h : Tx n a) (e : n ≤ m) : Tx m a := ⟨by have := h.1; omega, h.2⟩
theorem Tx.take {a : List Nat} {n : Nat} (h : Tx n a) (k : Nat) : Tx n (a.take k) := ⟨by have := h.1; rw [List.length_take]; omega, fun z => h.2 (List.mem_of_mem_take z)⟩
theorem Tx.drop {a : List Nat} {n : Nat} (h : Tx n a) (k : Nat) : Tx n (a.drop k) := ⟨by have := h.1; rw [List.length_drop]; omega, fun z => h.2 (List.mem_of_mem_drop z)⟩
theorem word_ok {cs : List Int} {n : Nat} {o : OC} (D0 : DS cs n o) (hn : n < 2 ^ 57) : ∃ (r : Ret) (l : List Vd.Arg), F_law_word [.o false o] = .ok r l ∧ ∃ w o', r = .p (.str w) ∧ l = [.o false o'] ∧ DS cs (n + 40) o' ∧ Tx 50 w := by
  refine run_of ?_
  unfold b_law_word
  (simp only [List.map_cons, List.map_nil, List.length_cons, List.length_nil, List.cons_append, List.nil_append, List.replicate_succ, List.replicate_zero, Arg.ss, Nat.reduceAdd, Nat.reduceSub]); decreasing_trivial
  refine w_draw hNext rfl D0 (by omega) (by decide) (by decide) (fun r o1 D1 r0 r1 => ?_)
  dsimp only [List.set_cons_zero, List.set_cons_succ]
  obtain ⟨sz, hsz, hi0⟩ := item_map (fun k : Nat => .int (k : Nat)) (l := [1, 2, 5, 15, 16, 17]) r0 r1
  have hs : 1 ≤ sz ∧ sz ≤ 17 := by simp at hsz; omega
  refine w_ixD rfl rfl hi0 ?_
  decreasing_trivial
  refine w_draw hNext rfl D1 (by omega) (by decide) (by decide) (fun r o2 D2 r0 r1 => ?_)
  dsimp only [List.set_cons_zero, List.set_cons_succ]
  obtain ⟨x0, hx0, hi1⟩ := item_str (l := [97, 107]) r0 r1
  refine w_ixD rfl rfl hi1 ?_
  decreasing_trivial
  refine w_lcS ?_
  decreasing_trivial
  obtain ⟨k1, hk1⟩ : ∃ k1 : Nat, (sz : Int) - 1 = k1 := ⟨sz - 1, by omega⟩
  rw [hk1]
  refine w_it rfl (rng_nat (m := k1) (by omega)) ?_
  refine ⟨fun acc rest e => ∃ (ys : List Nat) (o' : OC) (q : Nat), acc = ys.map ch1 ∧ e = [.own true false o', .dat (.str [97, 98, 122, 48, 49, 57]), .dat (.int (sz : Nat)), .un, .un, .un, .un, .un] ∧ DS cs q o' ∧ q + rest.length = n + 1 + 1 + k1 ∧ ys.length + rest.length = k1 ∧ 37 ∉ ys, ⟨[], o2, n + 1 + 1, rfl, rfl, D2, by simp, by simp, by simp⟩, fun acc d rest e h => ?_, fun r e h => ?_⟩
  · obtain ⟨ys, o', q, rfl, rfl, D5, g1, g2, g3⟩ := h
    rw [List.length_cons] at g1 g2
    refine w_bind_nm rfl rfl ?_
    dsimp only [List.set_cons_zero, List.set_cons_succ]
    decreasing_trivial
    refine w_draw hNext rfl D5 (by omega) (by decide) (by decide) (fun r o5 D6 e0 e1 => ?_)
    dsimp only [List.set_cons_zero]
    obtain ⟨c, hc, hi⟩ := item_str (l := [97, 98, 122, 48, 49, 57]) e0 e1
    refine w_ixD rfl rfl hi ?_
    refine ⟨ch1 c, rfl, ys ++ [c], o5, q + 1, by simp, rfl, D6, by omega, by rw [List.length_append, List.length_singleton]; omega, fun hx => ?_⟩
    rcases List.mem_append.mp hx with hx | hx
    · exact g3 hx
    · rw [List.mem_singleton] at hx; subst hx; exact absurd hc (by decide)
  obtain ⟨ys, o', q, rfl, rfl, D5, g1, g2, g3⟩ := h
  simp only [List.length_nil, Nat.add_zero] at g1 g2
  refine ⟨by rw [List.length_map]; unfold line; omega, ?_⟩
  (try dsimp only [lockE, vws, List.foldl, wipeE, unlockE, backE, List.set_cons_zero, List.set_cons_succ])
  decreasing_trivial
  refine w_pf rfl rfl (join_map (fun c => [c]) ys (by rw [flat1]; unfold line; omega)) ?_
  rw [flat1]
  refine w_op2 rfl rfl (show bop .add (.str [x0]) (.str ys) = some (.p (.str (x0 :: ys))) from if_pos (by rw [List.length_singleton]; unfold line; omega)) ?_
  have tf : Tx 17 (x0 :: ys) := ⟨by rw [List.length_cons]; omega, fun z => by
    rcases List.mem_cons.mp z with z | z
    · subst z; exact absurd hx0 (by decide)
    · exact g3 z⟩
  generalize x0 :: ys = R at tf
  have lR := tf.1
  decreasing_trivial
  refine w_draw hNext rfl D5 (by omega) (by omega) (by omega) (fun at' o6 D6 a0 a1 => ?_)
  dsimp only [List.set_cons_zero, List.set_cons_succ]
  obtain ⟨ap, rfl⟩ := Int.eq_ofNat_of_zero_le a0
  decreasing_trivial
  refine w_draw hNext rfl D6 (by omega) (by decide) (by decide) (fun way o7 D7 b0 b1 => ?_)
  dsimp only [List.set_cons_zero, List.set_cons_succ]
  decreasing_trivial
  refine w_draw hNext rfl D7 (by omega) (by decide) (by decide) (fun r o8 D8 c0 c1 => ?_)
  dsimp only [List.set_cons_zero, List.set_cons_succ]
  obtain ⟨od, hod, hi2⟩ := item_map (fun k : Nat => .str [k]) (l := [65, 45, 32, 55, 35, 10]) c0 c1
  refine w_ixD rfl rfl hi2 ?_
  decreasing_trivial
  rw [cut_hi (b := ap) _ rfl]
  refine w_op2 rfl rfl (show bop .add (.str (R.take ap)) (.str [od]) = some (.p (.str (R.take ap ++ [od]))) from if_pos (by rw [List.length_take, List.length_singleton]; unfold line; omega)) ?_
  decreasing_trivial
  rw [cut_lo (a := ap + 1) _ (by omega)]
  refine w_op2 rfl rfl (show bop .add (.str (R.take ap ++ [od])) (.str (R.drop (ap + 1))) = some (.p (.str (R.take ap ++ [od] ++ R.drop (ap + 1)))) from if_pos (by rw [List.length_append, List.length_take, List.length_singleton, List.length_drop]; unfold line; omega)) ?_
  decreasing_trivial
  refine w_op2 rfl rfl (show bop .add (.str [55]) (.str R) = some (.p (.str ([55] ++ R))) from if_pos (by rw [List.length_singleton]; unfold line; omega)) ?_
  decreasing_trivial
  have t1 : Tx 50 R := tf.mono (by omega)
  have to : Tx 1 [od] := ⟨Nat.le_refl _, fun z => by rw [List.mem_singleton] at z; subst z; exact absurd hod (by decide)⟩
  have t2 : Tx 50 (R.take ap ++ [od] ++ R.drop (ap + 1)) := ((tf.take _).app to (Nat.le_refl _)).app (tf.drop _) (by omega)
  have t3 : Tx 50 ([55] ++ R) := Tx.app (n := 1) ⟨Nat.le_refl _, by decide⟩ tf (by omega)
  obtain ⟨w, hw, hi3⟩ := item_map D.str (l := [R, R, R, R.take ap ++ [od] ++ R.drop (ap + 1), [55] ++ R, []]) b0 b1
  refine w_ixD rfl rfl hi3 ?_
  decreasing_trivial
  refine ⟨_, rfl, w, o8, rfl, rfl, D8.mono (by omega), ?_⟩
  simp only [List.mem_cons, List.not_mem_nil, or_false] at hw
  rcases hw with rfl | rfl | rfl | rfl | rfl | rfl
  · exact t1
  · exact t1
  · exact t1
  · exact t2
  · exact t3
  · exact ⟨by simp, by simp⟩
end K02
namespace K02
open Vd
local macro_rules
  | `(tactic| decreasing_trivial) => `(tactic| repeat ((first | refine w_nil ?_ | refine w_cons ?_ | refine w_set ?_ | refine w_par ?_ | refine w_unp ?_ | refine w_sub ?_ | refine w_exp ?_ | refine w_ret ?_ | refine w_ifs ?_ | refine w_pas ?_ | refine w_fors ?_ | refine w_dat rfl ?_ | refine w_own rfl ?_ | refine w_int ?_ | refine w_bl ?_ | refine w_non ?_ | refine w_str ?_ | (refine' w_con' ?hcon ?_; (case hcon => (conv => lhs; whnf))) | refine w_bin ?_ | refine w_cmp ?_ | refine w_neg ?_ | refine w_not ?_ | refine w_ite ?_ | refine w_and ?_ | refine w_or ?_ | refine w_chn ?_ | refine w_tup ?_ | refine w_lst ?_ | refine w_ix ?_ | refine w_rvl ?_ | refine w_sl ?_ | refine w_call ?_ | refine w_bi ?_ | refine w_mt ?_ | refine w_pm ?_ | refine w_isi ?_ | refine ws_nil ?_ | refine ws_cons ?_ | refine wo_none ?_ | refine wo_some ?_ | refine wt_and ?_ | refine wt_or ?_ | refine wt_not ?_ | refine wt_val rfl ?_ | refine w_its ?_ | refine w_mul rfl rfl (.inr (by decide)) ?_ | refine w_mod rfl rfl (by decide) ?_ | refine w_fdiv rfl rfl (by decide) ?_ | refine w_op2 rfl rfl rfl ?_ | refine w_op1 rfl rfl ?_ | refine w_bfn rfl rfl ?_ | refine w_setp rfl rfl ?_ | refine w_setf rfl rfl ?_ | refine w_bind_nm rfl rfl ?_ | refine w_bind_tp ?_ | refine w_bs_nil ?_ | refine w_bs_cons ?_ | refine c_nil ?_ | refine c_cons ?_ | refine c_cnt ?_ | refine c_brk ?_ | refine c_ifs ?_ | refine c_ex ?_ | refine w_sv_nil ?_ | refine w_sv_cons ?_ | refine w_retp ?_ | refine w_retf ?_ | refine w_reto rfl ?_ | refine w_fzs rfl (lenOk rfl) ?_ | refine w_fzVs rfl ?_ | refine w_fz rfl ?_ | refine w_it rfl rfl ?_); (try dsimp only [List.set_cons_zero, List.set_cons_succ, lockE, unlockE, vws, List.foldl])))
theorem ltext_ok {cs : List Int} {n : Nat} {o : OC} (D0 : DS cs n o) (hn : n < 2 ^ 56) : ∃ (r : Ret) (l : List Vd.Arg), F_law_text [.o false o] = .ok r l ∧ ∃ w o', r = .p (.str w) ∧ l = [.o false o'] ∧ DS cs (n + 200) o' ∧ Tx 150 w := by
  refine run_of ?_
  unfold b_law_text
  (simp only [List.map_cons, List.map_nil, List.length_cons, List.length_nil, List.cons_append, List.nil_append, List.replicate_succ, List.replicate_zero, Arg.ss, Nat.reduceAdd, Nat.reduceSub]); decreasing_trivial
  obtain ⟨_, _, hF, w1, o1, rfl, rfl, D1, T1⟩ := word_ok D0 (by omega)
  refine w_callV rfl rfl rfl hF ?_
  dsimp only [List.set_cons_zero, List.set_cons_succ]
  decreasing_trivial
  obtain ⟨_, _, hF, w2, o2, rfl, rfl, D2, T2⟩ := word_ok D1 (by omega)
  refine w_callV rfl rfl rfl hF ?_
  dsimp only [List.set_cons_zero, List.set_cons_succ]
  decreasing_trivial
  refine w_draw hNext rfl D2 (by omega) (by decide) (by decide) (fun r o3 D3 r0 r1 => ?_)
  dsimp only [List.set_cons_zero, List.set_cons_succ]
  obtain ⟨mk, hmk, hi0⟩ := item_map D.str (l := [[35], [35], [], [35, 35], [32, 35]]) r0 r1
  have Tm : Tx 2 mk := by
    simp only [List.mem_cons, List.not_mem_nil, or_false] at hmk
    rcases hmk with rfl | rfl | rfl | rfl | rfl <;> exact ⟨by decide, by decide⟩
  refine w_ixD rfl rfl hi0 ?_
  decreasing_trivial
  refine w_draw hNext rfl D3 (by omega) (by decide) (by decide) (fun r o4 D4 r0 r1 => ?_)
  dsimp only [List.set_cons_zero, List.set_cons_succ]
  obtain ⟨sz, hsz, hi1⟩ := item_map (fun k : Nat => .int (k : Nat)) (l := [0, 1, 7, 19, 20, 21]) r0 r1
  have hs : sz ≤ 21 := by simp at hsz; omega
  refine w_ixD rfl rfl hi1 ?_
  decreasing_trivial
  refine w_lcS ?_
  decreasing_trivial
  refine w_it rfl (rng_nat (m := sz) (by omega)) ?_
  refine ⟨fun acc rest e => ∃ (ys : List Nat) (o' : OC) (q : Nat), acc = ys.map ch1 ∧ e = [.own true false o', .dat (.str w1), .dat (.str w2), .dat (.str mk), .dat (.int (sz : Nat)), .un, .un, .un, .un, .un] ∧ DS cs q o' ∧ q + rest.length = n + 40 + 40 + 1 + 1 + sz ∧ ys.length + rest.length = sz ∧ 37 ∉ ys, ⟨[], o4, n + 40 + 40 + 1 + 1, rfl, rfl, D4, by simp, by simp, by simp⟩, fun acc d rest e h => ?_, fun r e h => ?_⟩
  · obtain ⟨ys, o', q, rfl, rfl, D5, g1, g2, g3⟩ := h
    rw [List.length_cons] at g1 g2
    refine w_bind_nm rfl rfl ?_
    dsimp only [List.set_cons_zero, List.set_cons_succ]
    decreasing_trivial
    refine w_draw hNext rfl D5 (by omega) (by decide) (by decide) (fun r o5 D6 e0 e1 => ?_)
    dsimp only [List.set_cons_zero]
    obtain ⟨c, hc, hi⟩ := item_str (l := [120, 89, 57, 35, 46, 58, 47, 126, 45]) e0 e1
    refine w_ixD rfl rfl hi ?_
    refine ⟨ch1 c, rfl, ys ++ [c], o5, q + 1, by simp, rfl, D6, by omega, by rw [List.length_append, List.length_singleton]; omega, fun hx => ?_⟩
    rcases List.mem_append.mp hx with hx | hx
    · exact g3 hx
    · rw [List.mem_singleton] at hx; subst hx; exact absurd hc (by decide)
  obtain ⟨R, o', q, rfl, rfl, D5, g1, g2, g3⟩ := h
  simp only [List.length_nil, Nat.add_zero] at g1 g2
  refine ⟨by rw [List.length_map]; unfold line; omega, ?_⟩
  (try dsimp only [lockE, vws, List.foldl, wipeE, unlockE, backE, List.set_cons_zero, List.set_cons_succ])
  decreasing_trivial
  refine w_pf rfl rfl (join_map (fun c => [c]) R (by rw [flat1]; unfold line; omega)) ?_
  rw [flat1]
  have tf : Tx 21 R := ⟨by omega, g3⟩
  have lR := tf.1
  decreasing_trivial
  obtain ⟨bd, hbd⟩ : ∃ bd : Int, (sz : Int) + 1 = bd := ⟨_, rfl⟩
  rw [hbd]
  refine w_draw hNext rfl D5 (by omega) (by omega) (by omega) (fun at' o6 D6 a0 a1 => ?_)
  dsimp only [List.set_cons_zero, List.set_cons_succ]
  obtain ⟨ap, rfl⟩ := Int.eq_ofNat_of_zero_le a0
  decreasing_trivial
  refine w_draw hNext rfl D6 (by omega) (by decide) (by decide) (fun r o8 D8 c0 c1 => ?_)
  dsimp only [List.set_cons_zero, List.set_cons_succ]
  obtain ⟨od, hod, hi2⟩ := item_map (fun k : Nat => .str [k]) (l := [32, 60, 62, 38, 10, 33]) c0 c1
  refine w_ixD rfl rfl hi2 ?_
  decreasing_trivial
  have l1 := T1.1
  have l2 := T2.1
  have l3 := Tm.1
  refine w_op2 rfl rfl (show bop .add (.str w1) (.str mk) = some (.p (.str (w1 ++ mk))) from if_pos (by unfold line; omega)) ?_
  decreasing_trivial
  refine w_op2 rfl rfl (show bop .add (.str (w1 ++ mk)) (.str w2) = some (.p (.str (w1 ++ mk ++ w2))) from if_pos (by rw [List.length_append]; unfold line; omega)) ?_
  decreasing_trivial
  refine w_op2 rfl rfl (show bop .add (.str [111, 117, 116, 58]) (.str R) = some (.p (.str ([111, 117, 116, 58] ++ R))) from if_pos (by show 4 + _ ≤ _; unfold line; omega)) ?_
  decreasing_trivial
  rw [cut_hi (b := ap) _ rfl]
  refine w_op2 rfl rfl (show bop .add (.str [111, 117, 116, 58]) (.str (R.take ap)) = some (.p (.str ([111, 117, 116, 58] ++ R.take ap))) from if_pos (by show 4 + _ ≤ _; rw [List.length_take]; unfold line; omega)) ?_
  decreasing_trivial
  refine w_op2 rfl rfl (show bop .add (.str ([111, 117, 116, 58] ++ R.take ap)) (.str [od]) = some (.p (.str ([111, 117, 116, 58] ++ R.take ap ++ [od]))) from if_pos (by rw [List.length_append, List.length_take, List.length_singleton]; show 4 + _ + _ ≤ _; unfold line; omega)) ?_
  decreasing_trivial
  rw [cut_lo (a := ap + 1) _ (by omega)]
  refine w_op2 rfl rfl (show bop .add (.str ([111, 117, 116, 58] ++ R.take ap ++ [od])) (.str (R.drop (ap + 1))) = some (.p (.str ([111, 117, 116, 58] ++ R.take ap ++ [od] ++ R.drop (ap + 1)))) from if_pos (by rw [List.length_append, List.length_append, List.length_take, List.length_singleton, List.length_drop]; show 4 + _ + _ + _ ≤ _; unfold line; omega)) ?_
  decreasing_trivial
  refine w_op2 rfl rfl (show bop .add (.str [79, 117, 116, 58]) (.str R) = some (.p (.str ([79, 117, 116, 58] ++ R))) from if_pos (by show 4 + _ ≤ _; unfold line; omega)) ?_
  decreasing_trivial
  refine w_draw hNext rfl D8 (by omega) (by decide) (by decide) (fun r o9 D9 b0 b1 => ?_)
  dsimp only [List.set_cons_zero, List.set_cons_succ]
  have to : Tx 1 [od] := ⟨Nat.le_refl _, fun z => by rw [List.mem_singleton] at z; subst z; exact absurd hod (by decide)⟩
  have ko : Tx 4 [111, 117, 116, 58] := ⟨by decide, by decide⟩
  have kO : Tx 4 [79, 117, 116, 58] := ⟨by decide, by decide⟩
  have t1 : Tx 150 (w1 ++ mk ++ w2) := (T1.app Tm (Nat.le_refl _)).app T2 (by omega)
  have t2 : Tx 150 ([111, 117, 116, 58] ++ R) := ko.app tf (by omega)
  have t3 : Tx 150 ([111, 117, 116, 58] ++ R.take ap ++ [od] ++ R.drop (ap + 1)) := ((ko.app (tf.take _) (Nat.le_refl _)).app to (Nat.le_refl _)).app (tf.drop _) (by omega)
  have t4 : Tx 150 ([79, 117, 116, 58] ++ R) := kO.app tf (by omega)
  obtain ⟨w, hw, hi3⟩ := item_map D.str (l := [w1 ++ mk ++ w2, [111, 117, 116, 58] ++ R, [111, 117, 116, 58] ++ R.take ap ++ [od] ++ R.drop (ap + 1), [79, 117, 116, 58] ++ R, R, w1]) b0 b1
  refine w_ixD rfl rfl hi3 ?_
  decreasing_trivial
  refine ⟨_, rfl, w, o9, rfl, rfl, D9.mono (by omega), ?_⟩
  simp only [List.mem_cons, List.not_mem_nil, or_false] at hw
  rcases hw with rfl | rfl | rfl | rfl | rfl | rfl
  · exact t1
  · exact t2
  · exact t3
  · exact t4
  · exact tf.mono (by omega)
  · exact T1.mono (by omega)
end K02
namespace K02
open Vd
local macro_rules
  | `(tactic| decreasing_trivial) => `(tactic| repeat ((first | refine w_nil ?_ | refine w_cons ?_ | refine w_set ?_ | refine w_par ?_ | refine w_unp ?_ | refine w_sub ?_ | refine w_exp ?_ | refine w_ret ?_ | refine w_ifs ?_ | refine w_pas ?_ | refine w_fors ?_ | refine w_dat rfl ?_ | refine w_own rfl ?_ | refine w_int ?_ | refine w_bl ?_ | refine w_non ?_ | refine w_str ?_ | (refine' w_con' ?hcon ?_; (case hcon => (conv => lhs; whnf))) | refine w_bin ?_ | refine w_cmp ?_ | refine w_neg ?_ | refine w_not ?_ | refine w_ite ?_ | refine w_and ?_ | refine w_or ?_ | refine w_chn ?_ | refine w_tup ?_ | refine w_lst ?_ | refine w_ix ?_ | refine w_rvl ?_ | refine w_sl ?_ | refine w_call ?_ | refine w_bi ?_ | refine w_mt ?_ | refine w_pm ?_ | refine w_isi ?_ | refine ws_nil ?_ | refine ws_cons ?_ | refine wo_none ?_ | refine wo_some ?_ | refine wt_and ?_ | refine wt_or ?_ | refine wt_not ?_ | refine wt_val rfl ?_ | refine w_its ?_ | refine w_mul rfl rfl (.inr (by decide)) ?_ | refine w_mod rfl rfl (by decide) ?_ | refine w_fdiv rfl rfl (by decide) ?_ | refine w_op2 rfl rfl rfl ?_ | refine w_op1 rfl rfl ?_ | refine w_bfn rfl rfl ?_ | refine w_setp rfl rfl ?_ | refine w_setf rfl rfl ?_ | refine w_bind_nm rfl rfl ?_ | refine w_bind_tp ?_ | refine w_bs_nil ?_ | refine w_bs_cons ?_ | refine c_nil ?_ | refine c_cons ?_ | refine c_cnt ?_ | refine c_brk ?_ | refine c_ifs ?_ | refine c_ex ?_ | refine w_sv_nil ?_ | refine w_sv_cons ?_ | refine w_retp ?_ | refine w_retf ?_ | refine w_reto rfl ?_ | refine w_fzs rfl (lenOk rfl) ?_ | refine w_fzVs rfl ?_ | refine w_fz rfl ?_ | refine w_it rfl rfl ?_); (try dsimp only [List.set_cons_zero, List.set_cons_succ, lockE, unlockE, vws, List.foldl])))
/-- the three tests agree on it -/
def Tri (d : D) : Prop := ∃ a b c : Bool, F_is_id [.p d] = .ok (.p (.bl a)) [.p d] ∧ F_law_is_id [.p d] = .ok (.p (.bl a)) [.p d] ∧ F_is_link [.p d] = .ok (.p (.bl b)) [.p d] ∧ F_law_is_link [.p d] = .ok (.p (.bl b)) [.p d] ∧ F_is_token [.p d] = .ok (.p (.bl c)) [.p d] ∧ F_law_is_token [.p d] = .ok (.p (.bl c)) [.p d]
theorem tri_str {w : List Nat} {n : Nat} (h : Tx n w) (hn : n ≤ 200) : Tri (.str w) := by
  have h1 := h.1
  obtain ⟨b, l1, l2⟩ := links w (by omega) h.2
  obtain ⟨c, g1, g2⟩ := ag_no (.str w) rfl
  exact ⟨_, b, c, id_ok w (by unfold line; omega), lid_ok w (by unfold line; omega), l1, l2, g1, g2⟩
theorem tri_ag {d : D} (h : nonS d = true) (g : Agree d) : Tri d := by
  obtain ⟨c, g1, g2⟩ := g
  exact ⟨false, false, c, id_no d h, lid_no d h, link_no d h, llink_no d h, g1, g2⟩
theorem tri_no {d : D} (h : nonS d = true) (g : nonT d = true) : Tri d := tri_ag h (ag_no d g)
/-- a row from which values are made -/
structure Fnd (fd : List D) : Prop where
  sz : fd.length ≤ 4
  ne : fd ≠ []
  a : Agree (.tup fd)
  more : ∀ m, Agree (.tup (fd ++ [m]))
  less : Agree (.tup fd.dropLast)
theorem cut_last {α : Type} (l : List α) : cut l none (some (-1)) = l.dropLast := by
  unfold cut clip
  rw [List.dropLast_eq_take]
  simp
  congr 1
  omega
abbrev vrest (cs : List Int) (n : Nat) (o : OC) (r : Ret) (l : List Vd.Arg) : Prop := ∃ d o', r = .p d ∧ l = [.o false o'] ∧ DS cs (n + 60) o' ∧ Tri d
theorem val_rest {cs : List Int} {n q : Nat} {o o' : OC} (D0 : DS cs q o') (hq : q + 2 ≤ n + 60) (hn : n < 2 ^ 56) {fd : List D} (F : Fnd fd) (d1 d2 d3 d4 d5 : D) :
    wO (exs ce_law_value (b_law_value.drop 6) [.own true false o', .dat d1, .dat d2, .dat d3, .dat d4, .dat d5, .dat (.tup fd), .un]) (fun e => ∃ l, backA [Vd.Arg.o false o] e = some l ∧ vrest cs n o (.p .non) l) fun r e => ∃ l, backA [Vd.Arg.o false o] e = some l ∧ vrest cs n o r l := by
  unfold b_law_value
  simp only [List.drop_succ_cons, List.drop_zero]
  decreasing_trivial
  refine w_draw hNext rfl D0 (by omega) (by decide) (by decide) (fun r o1 D1 r0 r1 => ?_)
  dsimp only [List.set_cons_zero, List.set_cons_succ]
  obtain ⟨m, hm, hi0⟩ := item_map (fun d : D => d) (l := [.non, .tup [], .str [120]]) r0 r1
  refine w_ixD rfl rfl hi0 ?_
  decreasing_trivial
  refine w_addT rfl rfl (by have := F.sz; rw [List.length_singleton]; unfold line; omega) ?_
  decreasing_trivial
  rw [cut_last]
  refine w_draw hNext rfl D1 (by omega) (by decide) (by decide) (fun r o2 D2 b0 b1 => ?_)
  dsimp only [List.set_cons_zero, List.set_cons_succ]
  obtain ⟨d, hd, hi3⟩ := item_map (fun d : D => d) (l := [.tup fd, .tup fd, .tup fd, .tup (fd ++ [m]), .tup fd.dropLast, .lst fd]) b0 b1
  refine w_ixD rfl rfl hi3 ?_
  decreasing_trivial
  refine ⟨_, rfl, d, o2, rfl, rfl, D2.mono (by omega), ?_⟩
  simp only [List.mem_cons, List.not_mem_nil, or_false] at hd
  rcases hd with rfl | rfl | rfl | rfl | rfl | rfl
  · exact tri_ag rfl F.a
  · exact tri_ag rfl F.a
  · exact tri_ag rfl F.a
  · exact tri_ag rfl (F.more m)
  · exact tri_ag rfl F.less
  · exact tri_no rfl rfl
theorem fnd_2 (w k : List Nat) (hk : k.length ≤ 200) (hw : w ≠ kchar) : Fnd [.str w, .str k] where
  sz := by simp
  ne := by simp
  a := by
    by_cases h : w = kchar ∨ w = kopen ∨ w = kclose
    · exact ag_2 w k h
    · exact ag_2o w k (fun z => h (.inl z)) (fun z => h (.inr (.inl z))) (fun z => h (.inr (.inr z))) hk
  more m := ag_3 w _ _
  less := ag_1 _
/-- a link, none, or another thing -/
def Lk (k : D) : Prop := k = .non ∨ k = .int 5 ∨ ∃ l, k = .str l ∧ l.length ≤ 200 ∧ 37 ∉ l
theorem fnd_4 {sg sy k : D} (hs : (∃ l, sg = .str l ∧ l.length ≤ 200 ∧ 37 ∉ l) ∨ nonS sg = true) (hy : (∃ st ∈ sts6, sy = .tup (st.map .str)) ∨ nonT sy = true) (hk : Lk k) : Fnd [.str kchar, sg, sy, k] where
  sz := by simp
  ne := by simp
  a := by
    refine ag_of ?_
    rcases hs with ⟨l, rfl, hl, h37⟩ | hs
    · by_cases h : ∃ c, l = [c] ∧ txt c = true
      · obtain ⟨c, rfl, hc⟩ := h
        rcases hk with rfl | rfl | ⟨l, rfl, h1, h2⟩
        · exact agc_c c sy _ hc true (.inl ⟨rfl, rfl⟩) hy
        · exact agc_c c sy _ hc false (.inr ⟨rfl, link_no _ rfl, llink_no _ rfl⟩) hy
        · obtain ⟨v, g1, g2⟩ := links l h1 h2
          exact agc_c c sy _ hc v (.inr ⟨rfl, g1, g2⟩) hy
      · refine agc_str l _ _ hl fun c e => ⟨?_, ?_⟩
        · cases q : txt c with
          | false => rfl
          | true => exact absurd ⟨c, e, q⟩ h
        · rintro rfl
          subst e
          exact h37 (by simp)
    · exact agc_sg _ _ _ hs
  more m := ag_5 kchar _ _ _ _
  less := ag_3 kchar _ _
theorem value_ok {cs : List Int} {n : Nat} {o : OC} (D0 : DS cs n o) (hn : n < 2 ^ 56) : ∃ (r : Ret) (l : List Vd.Arg), F_law_value [.o false o] = .ok r l ∧ vrest cs n o r l := by
  refine run_of ?_
  unfold b_law_value
  (simp only [List.map_cons, List.map_nil, List.length_cons, List.length_nil, List.cons_append, List.nil_append, List.replicate_succ, List.replicate_zero, Arg.ss, Nat.reduceAdd, Nat.reduceSub]); decreasing_trivial
  refine w_draw hNext rfl D0 (by omega) (by decide) (by decide) (fun r o1 D1 r0 r1 => ?_)
  dsimp only [List.set_cons_zero, List.set_cons_succ]
  obtain ⟨w, hw, hi⟩ := item_map D.str (l := [kopen, kclose, kchar, kchar, kchar, kanch, kimag, [98, 111, 120], []]) r0 r1
  refine w_ixD rfl rfl hi ?_
  decreasing_trivial
  refine w_draw hNext rfl D1 (by omega) (by decide) (by decide) (fun r o2 D2 r0 r1 => ?_)
  dsimp only [List.set_cons_zero, List.set_cons_succ]
  obtain ⟨k, hk, hi⟩ := item_map D.str (l := [ksect, kquote, klist, kitem, kh1, kh2, kh3, kpara, [104, 101, 97, 100, 52], []]) r0 r1
  have lk : k.length ≤ 200 := by
    have : ∀ k ∈ [ksect, kquote, klist, kitem, kh1, kh2, kh3, kpara, [104, 101, 97, 100, 52], []], k.length ≤ 200 := by decide
    exact this k hk
  refine w_ixD rfl rfl hi ?_
  decreasing_trivial
  refine w_draw hNext rfl D2 (by omega) (by decide) (by decide) (fun r o3 D3 r0 r1 => ?_)
  dsimp only [List.set_cons_zero, List.set_cons_succ]
  obtain ⟨sg, hsg, hi⟩ := item_map (fun d : D => d) (l := [.str [120], .str [32], .str [126], .str [60], .str [120, 121], .str [], .str [10], .str [9], .non, .int 7]) r0 r1
  have gs : (∃ l, sg = .str l ∧ l.length ≤ 200 ∧ 37 ∉ l) ∨ nonS sg = true := by
    simp only [List.mem_cons, List.not_mem_nil, or_false] at hsg
    rcases hsg with rfl | rfl | rfl | rfl | rfl | rfl | rfl | rfl | rfl | rfl
    all_goals first | exact .inr rfl | exact .inl ⟨_, rfl, by decide, by decide⟩
  refine w_ixD rfl rfl hi ?_
  decreasing_trivial
  refine w_draw hNext rfl D3 (by omega) (by decide) (by decide) (fun r o4 D4 r0 r1 => ?_)
  dsimp only [List.set_cons_zero, List.set_cons_succ]
  obtain ⟨sy, hsy, hi⟩ := item_map (fun d : D => d) (l := [.tup [], .tup [.str [99, 111, 100, 101]], .tup [.str [99, 111, 100, 101], .str [115, 108, 97, 110, 116], .str [115, 116, 114, 111, 110, 103]], .tup [.str [115, 116, 114, 111, 110, 103], .str [99, 111, 100, 101]], .tup [.str [115, 108, 97, 110, 116], .str [115, 108, 97, 110, 116]], .lst [.str [99, 111, 100, 101]], .tup [.str [98, 111, 108, 100]], .non]) r0 r1
  have gy : (∃ st ∈ sts6, sy = .tup (st.map .str)) ∨ nonT sy = true := by
    simp only [List.mem_cons, List.not_mem_nil, or_false] at hsy
    rcases hsy with rfl | rfl | rfl | rfl | rfl | rfl | rfl | rfl
    · exact .inl ⟨[], by decide, rfl⟩
    · exact .inl ⟨[[99, 111, 100, 101]], by decide, rfl⟩
    · exact .inl ⟨[[99, 111, 100, 101], [115, 108, 97, 110, 116], [115, 116, 114, 111, 110, 103]], by decide, rfl⟩
    · exact .inl ⟨[[115, 116, 114, 111, 110, 103], [99, 111, 100, 101]], by decide, rfl⟩
    · exact .inl ⟨[[115, 108, 97, 110, 116], [115, 108, 97, 110, 116]], by decide, rfl⟩
    · exact .inr rfl
    · exact .inl ⟨[[98, 111, 108, 100]], by decide, rfl⟩
    · exact .inr rfl
  refine w_ixD rfl rfl hi ?_
  decreasing_trivial
  refine w_draw hNext rfl D4 (by omega) (by decide) (by decide) (fun r o5 D5 r0 r1 => ?_)
  dsimp only [List.set_cons_zero, List.set_cons_succ]
  obtain ⟨lk', hlk, hi⟩ := item_map (fun d : D => d) (l := [.non, .str [107, 49, 35, 110, 49], .str [111, 117, 116, 58, 120], .str [107, 49], .int 5, .str [111, 117, 116, 58]]) r0 r1
  have gl : Lk lk' := by
    simp only [List.mem_cons, List.not_mem_nil, or_false] at hlk
    rcases hlk with rfl | rfl | rfl | rfl | rfl | rfl
    all_goals first | exact .inl rfl | exact .inr (.inl rfl) | exact .inr (.inr ⟨_, rfl, by decide, by decide⟩)
  refine w_ixD rfl rfl hi ?_
  decreasing_trivial
  have hin : inD (.str w) [.str [111, 112, 101, 110], .str [99, 108, 111, 115, 101], .str [98, 111, 120]] = decide (w ∈ [kopen, kclose, [98, 111, 120]]) := inDS w [kopen, kclose, [98, 111, 120]]
  rw [hin]
  refine w_if (fun h => ?_) (fun h => ?_)
  · have h := of_decide_eq_true h
    have hc : w ≠ kchar := by rintro rfl; revert h; decide
    refine w_cons (w_set ?_)
    repeat (first | refine w_tup ?_ | refine ws_cons ?_ | refine w_dat rfl ?_ | refine w_own rfl ?_ | refine w_int ?_ | refine ws_nil ?_ | refine w_fzs rfl (lenOk rfl) ?_ | refine w_setp rfl rfl ?_ | refine w_call ?_)
    dsimp only [List.set_cons_zero, List.set_cons_succ]
    refine w_nil ?_
    exact val_rest D5 (by omega) hn (fnd_2 w k lk hc) _ _ _ _ _
  · decreasing_trivial
    rw [show deq (.str w) (.str [99, 104, 97, 114]) = decide (w = kchar) from dS w kchar]
    refine w_if (fun h2 => ?_) (fun h2 => ?_)
    · have h2 := of_decide_eq_true h2
      subst h2
      repeat (first | refine w_tup ?_ | refine ws_cons ?_ | refine w_dat rfl ?_ | refine w_own rfl ?_ | refine w_int ?_ | refine ws_nil ?_ | refine w_fzs rfl (lenOk rfl) ?_ | refine w_setp rfl rfl ?_ | refine w_call ?_)
      dsimp only [List.set_cons_zero, List.set_cons_succ]
      refine w_nil ?_
      exact val_rest D5 (by omega) hn (fnd_4 gs gy gl) _ _ _ _ _
    · have hc : w ≠ kchar := of_decide_eq_false h2
      repeat (first | refine w_tup ?_ | refine ws_cons ?_ | refine w_dat rfl ?_ | refine w_own rfl ?_ | refine w_int ?_ | refine ws_nil ?_ | refine w_fzs rfl (lenOk rfl) ?_ | refine w_setp rfl rfl ?_ | refine w_call ?_)
      obtain ⟨_, _, hF, w1, o6, rfl, rfl, D6, T1⟩ := word_ok D5 (by omega)
      refine w_callV rfl rfl rfl hF ?_
      dsimp only [List.set_cons_zero, List.set_cons_succ]
      refine (show wR (evs _ _ [.own true false o6, .dat (.str w), .dat (.str k), .dat sg, .dat sy, .dat lk', .un, .un]) _ from ?_)
      repeat (first | refine w_tup ?_ | refine ws_cons ?_ | refine w_dat rfl ?_ | refine w_own rfl ?_ | refine w_int ?_ | refine ws_nil ?_ | refine w_fzs rfl (lenOk rfl) ?_ | refine w_setp rfl rfl ?_ | refine w_call ?_)
      dsimp only [List.set_cons_zero, List.set_cons_succ]
      refine w_nil ?_
      exact val_rest D6 (by omega) hn (fnd_2 w w1 (by have := T1.1; omega) hc) _ _ _ _ _
end K02
namespace K02
open Vd
local macro_rules
  | `(tactic| decreasing_trivial) => `(tactic| repeat ((first | refine w_nil ?_ | refine w_cons ?_ | refine w_set ?_ | refine w_par ?_ | refine w_unp ?_ | refine w_sub ?_ | refine w_exp ?_ | refine w_ret ?_ | refine w_ifs ?_ | refine w_pas ?_ | refine w_fors ?_ | refine w_dat rfl ?_ | refine w_own rfl ?_ | refine w_int ?_ | refine w_bl ?_ | refine w_non ?_ | refine w_str ?_ | (refine' w_con' ?hcon ?_; (case hcon => (conv => lhs; whnf))) | refine w_bin ?_ | refine w_cmp ?_ | refine w_neg ?_ | refine w_not ?_ | refine w_ite ?_ | refine w_and ?_ | refine w_or ?_ | refine w_chn ?_ | refine w_tup ?_ | refine w_lst ?_ | refine w_ix ?_ | refine w_rvl ?_ | refine w_sl ?_ | refine w_call ?_ | refine w_bi ?_ | refine w_mt ?_ | refine w_pm ?_ | refine w_isi ?_ | refine ws_nil ?_ | refine ws_cons ?_ | refine wo_none ?_ | refine wo_some ?_ | refine wt_and ?_ | refine wt_or ?_ | refine wt_not ?_ | refine wt_val rfl ?_ | refine w_its ?_ | refine w_mul rfl rfl (.inr (by decide)) ?_ | refine w_mod rfl rfl (by decide) ?_ | refine w_fdiv rfl rfl (by decide) ?_ | refine w_op2 rfl rfl rfl ?_ | refine w_op1 rfl rfl ?_ | refine w_bfn rfl rfl ?_ | refine w_setp rfl rfl ?_ | refine w_setf rfl rfl ?_ | refine w_bind_nm rfl rfl ?_ | refine w_bind_tp ?_ | refine w_bs_nil ?_ | refine w_bs_cons ?_ | refine c_nil ?_ | refine c_cons ?_ | refine c_cnt ?_ | refine c_brk ?_ | refine c_ifs ?_ | refine c_ex ?_ | refine w_sv_nil ?_ | refine w_sv_cons ?_ | refine w_retp ?_ | refine w_retf ?_ | refine w_reto rfl ?_ | refine w_fzs rfl (lenOk rfl) ?_ | refine w_fzVs rfl ?_ | refine w_fz rfl ?_ | refine w_it rfl rfl ?_); (try dsimp only [List.set_cons_zero, List.set_cons_succ, lockE, unlockE, vws, List.foldl])))
theorem repr3 (a b c : Bool) : ∃ t, bfn .reprd [.lst [.bl a, .bl b, .bl c]] = some (.p (.str t)) := by
  have h : ∀ a b c : Bool, (bfn .reprd [.lst [.bl a, .bl b, .bl c]]).isSome = true := by decide +kernel
  have h2 : ∀ v, bfn .reprd [.lst [.bl a, .bl b, .bl c]] = some v → ∃ t, v = .p (.str t) := by
    intro v e
    have q : bfn .reprd [.lst [.bl a, .bl b, .bl c]] = if seqD (.lst [.bl a, .bl b, .bl c]) = true ∧ plain (.lst [.bl a, .bl b, .bl c]) = true ∧ dep (.lst [.bl a, .bl b, .bl c]) ≤ 20 ∧ (toPy (.lst [.bl a, .bl b, .bl c])).showable = true then (strV (toPy (.lst [.bl a, .bl b, .bl c])).shown).map .p else none := rfl
    rw [q] at e
    split at e
    · unfold strV at e
      split at e
      · cases e; exact ⟨_, rfl⟩
      · cases e
    · cases e
  obtain ⟨v, e⟩ := Option.isSome_iff_exists.mp (h a b c)
  obtain ⟨t, rfl⟩ := h2 v e
  exact ⟨t, e⟩
theorem ne_str' (t : List Nat) : (!deq (.str t) (.str t)) = false := by rw [dS]; simp
def odds : List D := [.non, .int 5, .bl true, .tup [], .lst [.str [97]], .dct [], .tup [.str kopen], .int (10 ^ 20), .tup [.lst [], .str kpara], .tup [.dct [], .str [120], .tup [], .non]]
theorem odds_tri : ∀ d ∈ odds, Tri d := by
  intro d h
  simp only [odds, List.mem_cons, List.not_mem_nil, or_false] at h
  rcases h with rfl | rfl | rfl | rfl | rfl | rfl | rfl | rfl | rfl | rfl
  · exact tri_no rfl rfl
  · exact tri_no rfl rfl
  · exact tri_no rfl rfl
  · exact tri_ag rfl ag_0
  · exact tri_no rfl rfl
  · exact tri_no rfl rfl
  · exact tri_ag rfl (ag_1 _)
  · exact tri_no rfl rfl
  · exact tri_ag rfl (ag_first _ _ _ rfl)
  · exact tri_ag rfl (ag_first _ _ _ rfl)
theorem law_true (ns : List Int) (hn : ns.length ≤ 63) : ∃ l, F_law [.p (.lst (ns.map .int))] = .ok (.p (.bl true)) l := by
  obtain ⟨o0, hB, D0⟩ := begin_ds (ce := ce_law_begin) (ns := ns) (by omega)
  suffices ∃ (r : Ret) (l : List Vd.Arg), F_law [.p (.lst (ns.map .int))] = .ok r l ∧ r = .p (.bl true) by
    obtain ⟨r, l, h1, rfl⟩ := this
    exact ⟨l, h1⟩
  refine run_of ?_
  unfold b_law
  (simp only [List.map_cons, List.map_nil, List.length_cons, List.length_nil, List.cons_append, List.nil_append, List.replicate_succ, List.replicate_zero, Arg.ss, Nat.reduceAdd, Nat.reduceSub]); decreasing_trivial
  refine w_callP rfl rfl hB ?_
  decreasing_trivial
  obtain ⟨m, hm, hm2⟩ : ∃ m : Nat, (if 8 + (((ns.map D.int).length : Nat) : Int) < 30 then 8 + (((ns.map D.int).length : Nat) : Int) else 30) = (m : Int) ∧ m ≤ 30 := by
    by_cases h : 8 + (((ns.map D.int).length : Nat) : Int) < 30
    · exact ⟨8 + (ns.map D.int).length, by rw [if_pos h]; rfl, by omega⟩
    · exact ⟨30, by rw [if_neg h]; rfl, by omega⟩
  rw [hm]
  refine w_it rfl (rng_nat (m := m) (by omega)) ?_
  dsimp only [lockE, vws, List.foldl]
  refine w_for_inv (fun rest e => ∃ (o : OC) (k : Nat) (d2 d3 d4 d5 : SS), e = [.dat (.lst (ns.map .int)), .own false false o, d2, d3, d4, d5] ∧ d2.free = true ∧ d3.free = true ∧ d4.free = true ∧ d5.free = true ∧ DS (ns ++ [0]) k o ∧ k + 1000 * rest.length ≤ 30000) (fun e h => ?_) (fun d l e h => ?_) _ _ ⟨o0, 0, .un, .un, .un, .un, rfl, rfl, rfl, rfl, rfl, D0, by rw [List.length_map, List.length_range]; omega⟩
  · obtain ⟨o, k, d2, d3, d4, d5, rfl, f2, f3, f4, f5, D1, h1⟩ := h
    decreasing_trivial
    exact ⟨_, rfl, rfl⟩
  · obtain ⟨o, k, d2, d3, d4, d5, rfl, f2, f3, f4, f5, D1, h1⟩ := h
    rw [List.length_cons] at h1
    refine w_bind_nm rfl f2 ?_
    dsimp only [List.set_cons_zero, List.set_cons_succ]
    decreasing_trivial
    refine w_dct0 ?_
    decreasing_trivial
    refine w_dct0 ?_
    decreasing_trivial
    refine w_setf rfl f3 ?_
    dsimp only [List.set_cons_zero, List.set_cons_succ]
    decreasing_trivial
    refine w_draw hNext rfl D1 (by omega) (by decide) (by decide) (fun r o1 D2 r0 r1 => ?_)
    dsimp only [List.set_cons_zero, List.set_cons_succ]
    obtain ⟨od, hod, hi⟩ := item_map (fun d : D => d) (l := odds) r0 r1
    refine w_ixD rfl rfl hi ?_
    have To := odds_tri od hod
    decreasing_trivial
    obtain ⟨_, _, hF, w1, o2, rfl, rfl, D3, T1⟩ := word_ok D2 (by omega)
    refine w_callV rfl rfl rfl hF ?_
    dsimp only [List.set_cons_zero, List.set_cons_succ]
    decreasing_trivial
    obtain ⟨_, _, hF, w2, o3, rfl, rfl, D4, T2⟩ := ltext_ok D3 (by omega)
    refine w_callV rfl rfl rfl hF ?_
    dsimp only [List.set_cons_zero, List.set_cons_succ]
    decreasing_trivial
    obtain ⟨_, _, hF, v1, o4, rfl, rfl, D5, T3⟩ := value_ok D4 (by omega)
    refine w_callV rfl rfl rfl hF ?_
    dsimp only [List.set_cons_zero, List.set_cons_succ]
    decreasing_trivial
    obtain ⟨_, _, hF, v2, o5, rfl, rfl, D6, T4⟩ := value_ok D5 (by omega)
    refine w_callV rfl rfl rfl hF ?_
    dsimp only [List.set_cons_zero, List.set_cons_succ]
    decreasing_trivial
    refine w_for_inv (fun rest e => ∃ (d4 d5 : SS), e = [.dat (.lst (ns.map .int)), .own false false o5, .dat d, .dat od, d4, d5] ∧ d4.free = true ∧ d5.free = true ∧ ∀ t ∈ rest, Tri t) (fun e h => ?_) (fun t l' e h => ?_) _ _ ⟨d4, d5, rfl, f4, f5, fun t ht => ?_⟩
    · obtain ⟨d4, d5, rfl, f4, f5, _⟩ := h
      decreasing_trivial
      exact ⟨o5, _, _, _, _, _, rfl, rfl, rfl, f4, f5, D6, by omega⟩
    · obtain ⟨d4, d5, rfl, f4, f5, hT⟩ := h
      obtain ⟨a, b, c, i1, i2, l1, l2, t1, t2⟩ := hT t List.mem_cons_self
      obtain ⟨tx, hr⟩ := repr3 a b c
      refine w_bind_nm rfl f4 ?_
      dsimp only [List.set_cons_zero, List.set_cons_succ]
      decreasing_trivial
      refine w_callP rfl rfl i2 ?_
      decreasing_trivial
      refine w_callP rfl rfl l2 ?_
      decreasing_trivial
      refine w_callP rfl rfl t2 ?_
      decreasing_trivial
      refine w_setf rfl f5 ?_
      dsimp only [List.set_cons_zero, List.set_cons_succ]
      decreasing_trivial
      refine w_callP rfl rfl i1 ?_
      decreasing_trivial
      refine w_callP rfl rfl l1 ?_
      decreasing_trivial
      refine w_callP rfl rfl t1 ?_
      decreasing_trivial
      refine w_bf rfl hr ?_
      decreasing_trivial
      refine w_bf rfl hr ?_
      decreasing_trivial
      rw [ne_str' tx]
      refine w_if (fun z => by cases z) (fun _ => ?_)
      decreasing_trivial
      refine w_callP rfl rfl i1 ?_
      decreasing_trivial
      refine w_callP rfl rfl l1 ?_
      decreasing_trivial
      refine w_callP rfl rfl t1 ?_
      decreasing_trivial
      refine w_bf rfl hr ?_
      decreasing_trivial
      refine w_bf rfl hr ?_
      decreasing_trivial
      rw [ne_str' tx]
      refine w_if (fun z => by cases z) (fun _ => ?_)
      decreasing_trivial
      exact ⟨_, _, rfl, rfl, rfl, fun x hx => hT x (List.mem_cons_of_mem _ hx)⟩
    · simp only [List.mem_cons, List.not_mem_nil, or_false] at ht
      rcases ht with rfl | rfl | rfl | rfl | rfl
      · exact tri_str T1 (by omega)
      · exact tri_str T2 (by omega)
      · exact T3
      · exact T4
      · exact To
end K02
open PySem PySem.W PyProof.Rows
set_option maxHeartbeats 0 in
theorem PySem.Challenge.cw_bookpack_k02_ids_links_and_tokens_holds : PySem.Challenge.rw_bookpack_k02_ids_links_and_tokens.Holds := by
  w_on; o_law; k_head; (case hw => w_witness2)
  k_fill
  refine Vd.walk_ofR (l := PySem.Challenge.rw_bookpack_k02_ids_links_and_tokens) (n := 63) (k := 5) (x := "_law_script") (CX := fun w => L2.CX PySem.Challenge.rw_bookpack_k02_ids_links_and_tokens.prog w) (sp := fun w => Vd.spL _ 63) rfl (by decide) rfl ⟨rfl, by decide, by decide⟩ (fun w h Y => PySem.W.kIn_of Y) ?F (fun _ _ a ns hl _ hS => Vd.spL_start hl hS) (fun _ _ _ _ _ h => Vd.cx_no h)
  case F =>
    intro w mg fa h KX G hmg
    refine' Vd.law_impR K02.law_true (K02.all_mk KX G hmg ?a1 ?l1 ?c1 ?k1 ?a2 ?l2 ?c2 ?k2 ?a3 ?l3 ?c3 ?k3 ?a4 ?l4 ?c4 ?k4 ?a5 ?l5 ?c5 ?k5 ?a6 ?l6 ?c6 ?k6 ?a7 ?l7 ?c7 ?k7 ?a8 ?l8 ?c8 ?k8 ?a9 ?l9 ?c9 ?k9 ?a10 ?l10 ?c10 ?k10 ?a11 ?l11 ?c11 ?k11 ?a12 ?l12 ?c12 ?k12 ?a13 ?l13 ?c13 ?k13 ?a14 ?l14 ?c14 ?k14 ?a15 ?l15 ?c15 ?k15 ?a16 ?l16 ?c16 ?k16 ?z1 ?z2 ?z3 ?z4 ?z5 ?z6 ?z7 ?z8 ?z9 ?z10 ?z11 ?z12 ?v1 ?v2 ?v3 ?v4 ?v5 ?v6 ?w6 ?x6 ?v7 ?w7 ?x7 ?v8 ?w8 ?x8)
    (case a1 => k_is)
    (case l1 => k_is)
    (case c1 => k_is)
    (case k1 => k_is)
    (case a2 => k_is)
    (case l2 => k_is)
    (case c2 => k_is)
    (case k2 => k_is)
    (case a3 => k_is)
    (case l3 => k_is)
    (case c3 => k_is)
    (case k3 => k_is)
    (case a4 => k_is)
    (case l4 => k_is)
    (case c4 => k_is)
    (case k4 => k_is)
    (case a5 => k_is)
    (case l5 => k_is)
    (case c5 => k_is)
    (case k5 => k_is)
    (case a6 => k_is)
    (case l6 => k_is)
    (case c6 => k_is)
    (case k6 => k_is)
    (case a7 => k_is)
    (case l7 => k_is)
    (case c7 => k_is)
    (case k7 => k_is)
    (case a8 => k_is)
    (case l8 => k_is)
    (case c8 => k_is)
    (case k8 => k_is)
    (case a9 => k_is)
    (case l9 => k_is)
    (case c9 => k_is)
    (case k9 => k_is)
    (case a10 => k_is)
    (case l10 => k_is)
    (case c10 => k_is)
    (case k10 => k_is)
    (case a11 => k_is)
    (case l11 => k_is)
    (case c11 => k_is)
    (case k11 => k_is)
    (case a12 => k_is)
    (case l12 => k_is)
    (case c12 => k_is)
    (case k12 => k_is)
    (case a13 => k_is)
    (case l13 => k_is)
    (case c13 => k_is)
    (case k13 => k_is)
    (case a14 => k_is)
    (case l14 => k_is)
    (case c14 => k_is)
    (case k14 => k_is)
    (case a15 => k_is)
    (case l15 => k_is)
    (case c15 => k_is)
    (case k15 => k_is)
    (case a16 => k_is)
    (case l16 => k_is)
    (case c16 => k_is)
    (case k16 => k_is)
    (case z1 => k_is)
    (case z2 => k_is)
    (case z3 => k_is)
    (case z4 => k_is)
    (case z5 => k_is)
    (case z6 => k_is)
    (case z7 => k_is)
    (case z8 => k_is)
    (case z9 => k_is)
    (case z10 => k_is)
    (case z11 => k_is)
    (case z12 => k_is)
    (case v1 => k_is)
    (case v2 => k_is)
    (case v3 => k_is)
    (case v4 => k_is)
    (case v5 => k_is)
    (case v6 => k_is)
    (case w6 => k_is)
    (case x6 => rfl)
    (case v7 => k_is)
    (case w7 => k_is)
    (case x7 => rfl)
    (case v8 => k_is)
    (case w8 => k_is)
    (case x8 => rfl)

